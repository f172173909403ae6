import PyProof.Rows.All
import HandS.CallLocal
import HandS.Codes
import HandS.Comp
import HandS.Conv
import HandS.Deep
import HandS.Defaults
import HandS.DictComp
import HandS.EndBits
import HandS.Ends
import HandS.Flow
import HandS.ForMost
import HandS.Head2
import HandS.HeadEnd
import HandS.HeadHook1
import HandS.HeadHook2
import HandS.IsInst
import HandS.More
import HandS.RaiseMore
import HandS.Star
import HandS.Style
import HandS.Text
import HandS.TryOnly
import HandS.TupAny
import HandS.TupLen
import HandS.Wide
import HandS.WideBits
import HandS.Zip
import KE.GoesEnum
import KE.GoesMore
import KE.GoesZip
import KE.KItemsList
import OpenK.AllK
import PyProof.EnumMake
import PyProof.FitsInt
import PyProof.ReprLen
import PyProof.Rows.InDataRows
import PySem.Challenge.RW_crossingstold_k13_whole_points_in_region
import Wide.All
import Wide.FinOn

set_option Elab.async false
set_option linter.all false
set_option maxRecDepth 100000
set_option maxHeartbeats 1000000
/-! Dk: dicts whose keys are tuples of tuples, of any depth (up to 6), of ints and texts: a kind of key of its own. -/
namespace Pv
open PySem PySem.Spec PyProof.Rows L2
open Sem (wp)

/-- a key: an int or a text, or a tuple of such -/
inductive Kd where
  | k (x : L2.Key)
  | t (xs : List Kd)
noncomputable instance : DecidableEq Kd := fun _ _ => Classical.propDecidable _

mutual
def kdOf : PyData → Option Kd
  | .int i => some (.k (.inl i))
  | .str s => some (.k (.inr s))
  | .tuple xs => (kdsOf xs).map .t
  | _ => none
def kdsOf : List PyData → Option (List Kd)
  | [] => some []
  | x :: xs => (kdOf x).bind fun y => (kdsOf xs).map fun ys => y :: ys
end
mutual
def Kd.dp : Kd → Nat
  | .k _ => 0
  | .t xs => dps xs + 1
def dps : List Kd → Nat
  | [] => 0
  | x :: xs => max x.dp (dps xs)
end
section
variable (h : Heap)
mutual
def IsKd : Kd → Value → Prop
  | .k x, v => keyIs x v = true
  | .t xs, v => ∃ a o items n, v = .ref a ∧ h.get? a = some o ∧ o.cls = .type "tuple" ∧ o.data = .seq items n ∧ IsKds xs items.toList
def IsKds : List Kd → List Value → Prop
  | [], vs => vs = []
  | x :: xs, vs => ∃ v r, vs = v :: r ∧ IsKd x v ∧ IsKds xs r
end
end
section
variable {h h' : Heap}
mutual
theorem IsKd.inj : ∀ (x y : Kd) (v : Value), IsKd h x v → IsKd h y v → x = y
  | .k x, .k y, v, a, b => by
    have a' : keyIs x v = true := a
    have b' : keyIs y v = true := b
    rcases keyIs_shape a' with ⟨i, t, rfl, rfl⟩ | ⟨s, t, rfl, rfl⟩
    · rcases keyIs_shape b' with ⟨j, t', rfl, e⟩ | ⟨s, t', rfl, e⟩
      · injection e with e1 _; rw [e1]
      · cases e
    · rcases keyIs_shape b' with ⟨j, t', rfl, e⟩ | ⟨s, t', rfl, e⟩
      · cases e
      · injection e with e1 _; rw [e1]
  | .k x, .t ys, v, a, b => by
    obtain ⟨a', _, _, _, rfl, _⟩ := b
    rcases keyIs_shape (show keyIs x _ = true from a) with ⟨_, _, _, e⟩ | ⟨_, _, _, e⟩ <;> cases e
  | .t xs, .k y, v, a, b => by
    obtain ⟨a', _, _, _, rfl, _⟩ := a
    rcases keyIs_shape (show keyIs y _ = true from b) with ⟨_, _, _, e⟩ | ⟨_, _, _, e⟩ <;> cases e
  | .t xs, .t ys, v, a, b => by
    obtain ⟨a1, o, its, n, rfl, ho, _, hd, hi⟩ := a
    obtain ⟨a2, o', its', n', e, ho', _, hd', hi'⟩ := b
    cases e
    obtain rfl : o = o' := Option.some.inj (ho.symm.trans ho')
    rw [hd] at hd'
    injection hd' with h1 _
    subst h1
    rw [IsKds.inj xs ys _ hi hi']
theorem IsKds.inj : ∀ (xs ys : List Kd) (vs : List Value), IsKds h xs vs → IsKds h ys vs → xs = ys
  | [], [], _, _, _ => rfl
  | [], y :: ys, vs, a, b => by
    obtain ⟨v, r, rfl, _, _⟩ := b
    cases (show v :: r = [] from a)
  | x :: xs, [], vs, a, b => by
    obtain ⟨v, r, rfl, _, _⟩ := a
    cases (show v :: r = [] from b)
  | x :: xs, y :: ys, vs, a, b => by
    obtain ⟨v, r, rfl, h1, h2⟩ := a
    obtain ⟨v', r', e, h1', h2'⟩ := b
    cases e
    rw [IsKd.inj x y v h1 h1', IsKds.inj xs ys r h2 h2']
end
mutual
theorem IsKd.keeps {d : Addr} {o : Obj} {es ep} (ho : h.get? d = some o) (hd : o.data = .dict es ep) (hs : Heap.SameBut d h h') : ∀ (x : Kd) (v : Value), IsKd h x v → IsKd h' x v
  | .k x, v, a => a
  | .t xs, v, a => by
    obtain ⟨a1, o', its, n, rfl, ho', hc, hd', hi⟩ := a
    have hne : a1 ≠ d := by
      rintro rfl
      obtain rfl : o' = o := Option.some.inj (ho'.symm.trans ho)
      rw [hd] at hd'; exact nomatch hd'
    exact ⟨a1, o', its, n, rfl, (hs.2 a1 hne).trans ho', hc, hd', IsKds.keeps ho hd hs xs _ hi⟩
theorem IsKds.keeps {d : Addr} {o : Obj} {es ep} (ho : h.get? d = some o) (hd : o.data = .dict es ep) (hs : Heap.SameBut d h h') : ∀ (xs : List Kd) (vs : List Value), IsKds h xs vs → IsKds h' xs vs
  | [], vs, a => a
  | x :: xs, vs, a => by
    obtain ⟨v, r, rfl, h1, h2⟩ := a
    exact ⟨v, r, rfl, IsKd.keeps ho hd hs x v h1, IsKds.keeps ho hd hs xs r h2⟩
end
theorem IsKds.length : ∀ {xs : List Kd} {vs : List Value}, IsKds h xs vs → xs.length = vs.length
  | [], vs, a => by cases (show vs = [] from a); rfl
  | x :: xs, vs, a => by
    obtain ⟨v, r, rfl, h1, h2⟩ := a
    simp [IsKds.length h2]
end
mutual
def kdH (w : World) : Kd → Int
  | .k x => keyH w x
  | .t xs => reduceHash (Builtin.Tuple.tupleHashOf (kdHs w xs))
def kdHs (w : World) : List Kd → List Int
  | [] => []
  | x :: xs => kdH w x :: kdHs w xs
end
mutual
def kdN : Kd → Nat
  | .k x => 1
  | .t xs => kdNs xs + 1
def kdNs : List Kd → Nat
  | [] => 0
  | x :: xs => kdN x + kdNs xs
end
theorem kdNs_app : ∀ (a b : List Kd), kdNs (a ++ b) = kdNs a + kdNs b
  | [], b => by simp [kdNs]
  | x :: a, b => by simp [kdNs, kdNs_app a b]; omega
theorem kdHs_app (w : World) : ∀ (a b : List Kd), kdHs w (a ++ b) = kdHs w a ++ kdHs w b
  | [], b => by simp [kdHs]
  | x :: a, b => by simp [kdHs, kdHs_app w a b]
section
variable {prog : Program} {w : World}
def HashOk (prog : Program) (w : World) (x : Kd) : Prop := ∀ {A : Around} {E : Value → Shared → Prop} {s : Shared} {v : Value} {Q : Int → Shared → Prop}, A.units + x.dp < cLine → IsKd s.heap x v → Q (kdH w x) { s with toks := s.toks + kdN x } →
    wpAny (model prog w) A (PySem.pyHash v) Q E s
theorem dps_mem {k : Kd} : ∀ (l : List Kd), k ∈ l → k.dp ≤ dps l
  | [], hl => nomatch hl
  | z :: l, hl => by
    rcases List.mem_cons.mp hl with rfl | hl
    · exact Nat.le_max_left _ _
    · exact Nat.le_trans (dps_mem l hl) (Nat.le_max_right _ _)
theorem kd_hash_t {ks : List Kd} (ih : ∀ k ∈ ks, HashOk prog w k) : HashOk prog w (.t ks) := by
  intro A E s v Q hu hk h
  obtain ⟨a, o, items, n, rfl, ho, hc, hd, hi⟩ := hk
  have hT : s.TypeIs (.ref a) "tuple" := ⟨o, ho, hc⟩
  have hu1 : A.units + (dps ks + 1) < cLine := hu
  have hu0 : A.units < cLine := by omega
  unfold pyHash
  first | unfold pyHashByItsType | skip
  first | refine wpAny_bind (wpAny_cRoomFor_or (.inr hu0) ?_) | skip
  refine wpAny_bind (wpAny_specialOf hT F.slot_tuple_hash.lookup ?_)
  show wpAny _ _ (if (some (Value.builtin "tuple.__hash__") == some Value.none) = true then _ else _) Q E s
  rw [if_neg (by rw [beq_builtin_none]; exact Bool.false_ne_true)]
  refine wpAny_bind (wpAny_specialOf hT F.slot_tuple_hash.lookup ?_)
  show wpAny _ _ (callSpecialIfBoundUnlessNone? (.ref a) "__hash__" _ >>= _) Q E s
  refine wpAny_bind (wpAny_callSpecialIfBoundUnlessNone?_slot hT F.slot_tuple_hash (wpAny_call_entry F.slot_tuple_hash hT F.entry_tuple_hash ?_ (F.args_tuple_hash_1 _)))
  show wpAny _ _ (Builtin.Tuple.tupleItemsOf (.ref a) >>= _) _ _ s
  refine wpAny_bind (wpAny_tupleItemsOf ho hd ?_)
  refine wpAny_bind ?_
  rw [← Array.forIn_toList]
  refine wpAny_forIn_list _
    (fun rest (b : Array Int) s' => ∃ done left, ks = done ++ left ∧ IsKds s.heap left rest ∧ b.toList = kdHs w done ∧ s' = { s with toks := s.toks + kdNs done })
    _ ?_ ?_ _ _ ⟨[], ks, rfl, hi, rfl, rfl⟩
  · rintro x rest b s' ⟨done, left, e, hl, hb, rfl⟩
    cases left with
    | nil => cases (show x :: rest = [] from hl)
    | cons k left' =>
      have hmem : k ∈ ks := by rw [e]; simp
      obtain ⟨v, r, e2, h1, h2⟩ := hl
      cases e2
      have hle := dps_mem ks hmem
      refine wpAny_bind (ih k hmem ?_ h1 ?_)
      · show A.units + 1 + k.dp < cLine
        omega
      · first
          | exact wpAny_pure ⟨done ++ [k], left', by simp [e], h2, by simp [hb, kdHs_app, kdHs], by simp [kdNs_app, kdNs, Nat.add_assoc]⟩
          | exact wpAny_bind (wpAny_pure (wpAny_pure ⟨done ++ [k], left', by simp [e], h2, by simp [hb, kdHs_app, kdHs], by simp [kdNs_app, kdNs, Nat.add_assoc]⟩))
  · rintro b s' ⟨done, left, e, hl, hb, rfl⟩
    cases left with
    | cons k left' =>
      obtain ⟨v, r, e2, _⟩ := hl
      cases e2
    | nil =>
      rw [List.append_nil] at e
      subst e
      show wpAny _ _ (retInt (Builtin.Tuple.tupleHashOf b.toList)) _ _ _
      rw [hb]
      refine wpAny_ret_mkInt ?_
      show wpAny _ _ (if (decide (-(2 : Int) ^ 63 ≤ Builtin.Tuple.tupleHashOf (kdHs w ks)) && decide (Builtin.Tuple.tupleHashOf (kdHs w ks) < 2 ^ 63)) = true then _ else _) Q E _
      have h' : Q (reduceHash (Builtin.Tuple.tupleHashOf (kdHs w ks))) { s with toks := s.toks + (kdNs ks + 1) } := h
      unfold reduceHash at h'
      by_cases hr : (decide (-(2 : Int) ^ 63 ≤ Builtin.Tuple.tupleHashOf (kdHs w ks)) && decide (Builtin.Tuple.tupleHashOf (kdHs w ks) < 2 ^ 63)) = true
      · rw [if_pos hr]
        rw [if_pos hr] at h'
        exact wpAny_pure (by simpa [Nat.add_assoc] using h')
      · rw [if_neg hr]
        rw [if_neg hr] at h'
        exact wpAny_bind (wpAny_rule (wpAny_pure (by simpa [Nat.add_assoc] using h')))
mutual
theorem kd_hash : ∀ (x : Kd), HashOk prog w x
  | .k x => by
    intro hu hk h
    exact (mixKind prog w).pyHash (k := x) hk h
  | .t ks => kd_hash_t (kd_hashes ks)
theorem kd_hashes : ∀ (ks : List Kd), ∀ k ∈ ks, HashOk prog w k
  | [] => fun k hk => nomatch hk
  | x :: xs => List.forall_mem_cons.mpr ⟨kd_hash x, kd_hashes xs⟩
end

/-! ### == -/
mutual
def Kd.pd : Kd → PyData
  | .k (.inl i) => .int i
  | .k (.inr s) => .str s
  | .t xs => .tuple (pds xs)
def pds : List Kd → List PyData
  | [] => []
  | x :: xs => x.pd :: pds xs
end
mutual
theorem pd_depth : ∀ x : Kd, x.pd.depth ≤ x.dp
  | .k (.inl i) => by simp [Kd.pd, PyData.depth, Kd.dp]
  | .k (.inr s) => by simp [Kd.pd, PyData.depth, Kd.dp]
  | .t xs => by
    have := pds_depth xs
    simp only [Kd.pd, PyData.depth, Kd.dp]
    omega
theorem pds_depth : ∀ xs : List Kd, PyData.depthAll (pds xs) ≤ dps xs
  | [] => by simp [pds, PyData.depthAll, dps]
  | x :: xs => by
    have h1 := pd_depth x
    have h2 := pds_depth xs
    simp only [pds, PyData.depthAll, dps]
    omega
end
mutual
theorem pd_eqv : ∀ x y : Kd, PyData.eqv x.pd y.pd = decide (x = y)
  | .k (.inl i), .k (.inl j) => by
    simp only [Kd.pd, PyData.eqv]
    by_cases h : i = j
    · subst h; simp
    · have : ¬ (Kd.k (.inl i) = Kd.k (.inl j)) := fun e => h (by injection e with e; injection e)
      simp [h, this]
  | .k (.inl i), .k (.inr t) => by simp [Kd.pd, PyData.eqv]
  | .k (.inr s), .k (.inl i) => by simp [Kd.pd, PyData.eqv]
  | .k (.inr s), .k (.inr t) => by
    simp only [Kd.pd, PyData.eqv]
    by_cases h : s = t
    · subst h; simp
    · have : ¬ (Kd.k (.inr s) = Kd.k (.inr t)) := fun e => h (by injection e with e; injection e)
      simp [h, this]
  | .k (.inl i), .t ys => by simp [Kd.pd, PyData.eqv]
  | .k (.inr s), .t ys => by simp [Kd.pd, PyData.eqv]
  | .t xs, .k (.inl i) => by simp [Kd.pd, PyData.eqv]
  | .t xs, .k (.inr s) => by simp [Kd.pd, PyData.eqv]
  | .t xs, .t ys => by
    simp only [Kd.pd, PyData.eqv]
    rw [pds_eqv xs ys]
    by_cases h : xs = ys
    · subst h; simp
    · have : ¬ (Kd.t xs = Kd.t ys) := fun e => h (by injection e)
      simp [h, this]
theorem pds_eqv : ∀ xs ys : List Kd, PyData.eqvAll (pds xs) (pds ys) = decide (xs = ys)
  | [], [] => by simp [pds, PyData.eqvAll]
  | [], y :: ys => by simp [pds, PyData.eqvAll]
  | x :: xs, [] => by simp [pds, PyData.eqvAll]
  | x :: xs, y :: ys => by
    simp only [pds, PyData.eqvAll]
    rw [pd_eqv x y, pds_eqv xs ys]
    by_cases h : x = y <;> by_cases h2 : xs = ys <;> simp [h, h2]
end
mutual
theorem IsKd.reads {h : Heap} : ∀ (x : Kd) (v : Value), IsKd h x v → ∃ as, Reads h v x.pd as
  | .k (.inl i), v, a => by
    rcases keyIs_shape (show keyIs (.inl i) v = true from a) with ⟨j, t, e, rfl⟩ | ⟨j, t, e, rfl⟩
    · cases e
      exact ⟨_, .int i t⟩
    · cases e
  | .k (.inr i), v, a => by
    rcases keyIs_shape (show keyIs (.inr i) v = true from a) with ⟨j, t, e, rfl⟩ | ⟨j, t, e, rfl⟩
    · cases e
    · cases e
      exact ⟨_, .str i t⟩
  | .t xs, v, a => by
    obtain ⟨a1, o, its, n, rfl, ho, hc, hd, hi⟩ := a
    obtain ⟨as, r⟩ := IsKds.reads xs _ hi
    exact ⟨_, .tuple ho hc hd r⟩
theorem IsKds.reads {h : Heap} : ∀ (xs : List Kd) (vs : List Value), IsKds h xs vs → ∃ as, ReadsAll h vs (pds xs) as
  | [], vs, a => by cases (show vs = [] from a); exact ⟨_, .nil⟩
  | x :: xs, vs, a => by
    obtain ⟨v, r, rfl, h1, h2⟩ := a
    obtain ⟨as, r1⟩ := IsKd.reads x v h1
    obtain ⟨bs, r2⟩ := IsKds.reads xs r h2
    exact ⟨_, .cons r1 r2⟩
end
theorem kd_eq {A : Around} {E : Value → Shared → Prop} {s : Shared} {x y : Kd} {u v : Value} {Q : Bool → Shared → Prop} (lx : x.pd.canLay0 = true) (ly : y.pd.canLay0 = true) (hu : A.units + x.dp < cLine) (hx : IsKd s.heap x u) (hy : IsKd s.heap y v) (h : Q (decide (x = y)) s) :
    wpAny (model prog w) A (PySem.eqBool u v) Q E s := by
  obtain ⟨as, ra⟩ := IsKd.reads x u hx
  obtain ⟨bs, rb⟩ := IsKd.reads y v hy
  have h1 := pd_depth x
  exact SeqAt.eqBoolOverData prog w A E s u v x.pd y.pd as bs Q ra rb lx ly (by omega) (by rw [pd_eqv]; exact h)

/-! ### quiet -/
def QuietOk (prog : Program) (w : World) (x : Kd) : Prop := ∀ (n : Nat) {A : Around} {E : Value → Shared → Prop} {s : Shared} {v : Value} {Q : Bool → Shared → Prop}, x.dp ≤ n → IsKd s.heap x v → Q true s → wpAny (model prog w) A (eqIsQuiet n v) Q E s
theorem kd_quiet_t {ks : List Kd} (ih : ∀ k ∈ ks, QuietOk prog w k) : QuietOk prog w (.t ks) := by
  intro n A E s v Q hn hk h
  obtain ⟨a, o, items, m, rfl, ho, hc, hd, hi⟩ := hk
  have hT : s.TypeIs (.ref a) "tuple" := ⟨o, ho, hc⟩
  have hn' : dps ks + 1 ≤ n := hn
  obtain ⟨n, rfl⟩ : ∃ m, n = m + 1 := ⟨n - 1, by omega⟩
  unfold eqIsQuiet
  refine wpAny_bind (wpAny_specialOf hT F.slot_tuple_eq.lookup ?_)
  show wpAny _ _ (isInstance (.ref a) (.type "tuple") >>= _) _ _ s
  refine wpAny_bind (wpAny_isInstance hT isSubtype_tuple_tuple ?_)
  simp only [Bool.not_true, Bool.false_eq_true, if_false]
  refine wpAny_bind (wpAny_seqItems ho hd ?_)
  refine wpAny_bind ?_
  show wpAny _ _ (forIn items _ _) _ _ s
  rw [← Array.forIn_toList]
  refine wpAny_forIn_list _ (fun rest r s' => r.1 = none ∧ s' = s ∧ ∃ left, (∀ k ∈ left, k ∈ ks) ∧ IsKds s.heap left rest) _ ?_ ?_ _ _ ⟨rfl, rfl, ks, fun k hk => hk, hi⟩
  · rintro v rest r s' ⟨hr, rfl, left, hm, hl⟩
    cases left with
    | nil => cases (show v :: rest = [] from hl)
    | cons k left' =>
      obtain ⟨v', r', e2, h1, h2⟩ := hl
      cases e2
      have hle := dps_mem ks (hm k (List.mem_cons_self))
      refine wpAny_bind (ih k (hm k (List.mem_cons_self)) n (by omega) h1 ?_)
      simp only [Bool.not_true, Bool.false_eq_true, if_false]
      exact wpAny_pure ⟨rfl, rfl, left', fun k' hk' => hm k' (List.mem_cons_of_mem _ hk'), h2⟩
  · rintro ⟨r1, r2⟩ s' ⟨hr, rfl, _⟩
    simp only at hr
    subst hr
    exact wpAny_pure h
mutual
theorem kd_quiet : ∀ (x : Kd), QuietOk prog w x
  | .k x => by
    intro n A E s v Q hn hk h
    rw [eqIsQuiet_byValue n ((mixKind prog w).byValue x _ hk)]
    exact wpAny_pure h
  | .t ks => kd_quiet_t (kd_quiets ks)
theorem kd_quiets : ∀ (ks : List Kd), ∀ k ∈ ks, QuietOk prog w k
  | [] => fun k hk => nomatch hk
  | x :: xs => List.forall_mem_cons.mpr ⟨kd_quiet x, kd_quiets xs⟩
end

/-- tuples of such are keys -/
noncomputable def kdKind (prog : Program) (w : World) : HeapKind prog w (List Kd) where
  is := fun h ks a => IsKd h (.t ks) (.ref a) ∧ dps ks ≤ 6 ∧ (Kd.t ks).pd.canLay0 = true
  hash := fun ks => kdH w (.t ks)
  draws := fun ks => kdN (.t ks)
  room := fun A => A.units + 8 < cLine
  inj := fun hx hy => by
    have := IsKd.inj _ _ _ hx.1 hy.1
    injection this
  keeps := fun x ho hd hs => ⟨IsKd.keeps ho hd hs _ _ x.1, x.2⟩
  pyHash := fun {A E s k a Q} hu hk h => kd_hash (.t k) (by have := hk.2.1; show A.units + (dps k + 1) < cLine; have hu' : A.units + 8 < cLine := hu; omega) hk.1 h
  eqBool := fun {A E s x y a b Q} hu hx hy h => kd_eq (x := .t x) (y := .t y) hx.2.2 hy.2.2 (by have := hx.2.1; show A.units + (dps x + 1) < cLine; have hu' : A.units + 8 < cLine := hu; omega) hx.1 hy.1 (by
    have e : decide (Kd.t x = Kd.t y) = decide (x = y) := by
      by_cases h : x = y
      · subst h; simp
      · have : ¬ (Kd.t x = Kd.t y) := fun e => h (by injection e)
        simp [h, this]
    rw [e]; exact h)
  quiet := fun hk h => kd_quiet (.t _) 8 (by have := hk.2.1; show dps _ + 1 ≤ 8; omega) hk.1 h
end
end Pv

set_option Elab.async false
set_option linter.all false
set_option maxRecDepth 100000
set_option maxHeartbeats 1000000
/-! Lz: list(zip(a, b)) of two tuples, at the library's level: the pairs handed out stay alive, so each next one is new. -/
namespace Lz
open PySem PySem.Calls PyProof.Rows RZ
open PySem.Sem (wp)

/-- a zip whose last pair, at a, is still held -/
abbrev HeldZ (h : Heap) (z TI TO a : Addr) (f : Bool) : Prop := h.get? z = some { cls := .type "zip", data := .fields #[rawInt a, .bool f, .bool false, .ref TI, .ref TO] }
section
variable {prog : Program} {w : World} {A : Around} {E : Value → Shared → Prop} {s : Shared} {z TI TO i1 i2 l1 l2 a : Addr} {f : Bool} {oa : Obj} {k1 k2 : Nat} {xs ys : Array Value}

theorem held_free {Q : Bool → Shared → Prop} (hz : HeldZ s.heap z TI TO a f) (ha : s.heap.get? a = some oa)
    (hQ : ∀ h', HeldZ h' z TI TO a true → Heap.SameBut z s.heap h' → Q false { s with heap := h' }) : wpAny (model prog w) A (Builtin.SmallTypes.ownedTupleIsFree (.ref z)) Q E s := by
  unfold Builtin.SmallTypes.ownedTupleIsFree
  refine wpAny_bind (wpAny_field hz rfl (x := rawInt a) rfl ?_)
  show wpAny _ _ (loadIfAlive ((a : Int).toNat) >>= _) _ _ _
  rw [Int.toNat_natCast]
  refine wpAny_bind (PySem.W.kdx_alive ha ?_)
  simp only [Option.isNone_some, Bool.false_eq_true, if_false]
  refine wpAny_bind (wpAny_field hz rfl (x := .bool f) rfl ?_)
  cases f with
  | true =>
    rw [if_neg (show ¬ ((Value.bool true != Value.bool true) = true) from Bool.false_ne_true)]
    exact wpAny_pure (hQ _ hz (Heap.SameBut.refl _ _))
  | false =>
    rw [if_pos (show (Value.bool false != Value.bool true) = true from rfl)]
    exact wpAny_bind (wpAny_setField_rec hz (by simp) fun h₃ he₃ hs₃ => wpAny_pure (hQ h₃ he₃ hs₃))

theorem held_next {x y : Value} {Q : Option Value → Shared → Prop} (D : ZipApart z TI TO i1 i2 l1 l2) (hz : HeldZ s.heap z TI TO a f) (ha : s.heap.get? a = some oa) (hTI : IsPair s.heap TI (.ref i1) (.ref i2))
    (h1 : s.heap.IsTupleIter i1 l1 k1) (h2 : s.heap.IsTupleIter i2 l2 k2) (hl1 : s.heap.IsTuple l1 xs) (hl2 : s.heap.IsTuple l2 ys) (hx : xs[k1]? = some x) (hy : ys[k2]? = some y)
    (hQ : ∀ h', HeldZ h' z TI TO a true → h'.IsTupleIter i1 l1 (k1 + 1) → h'.IsTupleIter i2 l2 (k2 + 1) → IsPair h' s.heap.objs.size x y → h'.objs.size = s.heap.objs.size + 1 →
      (∀ c o, c ≠ z → c ≠ i1 → c ≠ i2 → s.heap.get? c = some o → h'.get? c = some o) → Q (some (.ref s.heap.objs.size)) { s with heap := h' }) :
    wpAny (model prog w) A (pyNext (.ref z)) Q E s := by
  have hT : s.TypeIs (.ref z) "zip" := ⟨_, hz, rfl⟩
  unfold pyNext
  refine wpAny_bind (wpAny_attempt (wpAny_callSpecial?_slot (name := Str.ofString "__next__") hT F.slot_zip_next (wpAny_call_entry F.slot_zip_next hT F.entry_zip_next ?_ (F.args_zip_next_1 _))))
  show wpAny _ _ (field (.ref z) 2 >>= _) _ _ _
  refine wpAny_bind (wpAny_field hz rfl (x := .bool false) rfl ?_)
  show wpAny _ _ (field (.ref z) 3 >>= _) _ _ _
  refine wpAny_bind (wpAny_field hz rfl (x := .ref TI) rfl ?_)
  refine wpAny_bind (wpAny_seqItems hTI rfl ?_)
  show wpAny _ _ (Builtin.SmallTypes.ownedTupleIsFree (.ref z) >>= _) _ _ _
  refine wpAny_bind (held_free hz ha fun h₁ hz₁ hs₁ => ?_)
  simp only [Bool.false_eq_true, if_false]
  refine wpAny_bind ?_
  show wpAny _ _ (forIn #[Value.ref i1, Value.ref i2] _ _) _ _ _
  rw [← Array.forIn_toList]
  simp only [List.forIn_cons, List.forIn_nil]
  refine wpAny_bind (wpAny_bind (wpAny_holding ?_))
  show wpAny _ _ (Builtin.SmallTypes.nextOf (.ref i1) >>= _) _ _ _
  refine wpAny_bind (nextOf_tuple_item (h1.extBut hs₁.extBut D.i1z) (hl1.extBut hs₁.extBut D.l1z) hx fun h₂ h1₂ hs₂ => wpAny_pure ?_)
  refine wpAny_pure ?_
  refine wpAny_bind (wpAny_bind (wpAny_holding ?_))
  show wpAny _ _ (Builtin.SmallTypes.nextOf (.ref i2) >>= _) _ _ _
  refine wpAny_bind (nextOf_tuple_item ((h2.extBut hs₁.extBut D.i2z).extBut hs₂.extBut D.i12.symm) ((hl2.extBut hs₁.extBut D.l2z).extBut hs₂.extBut D.l2i1) hy fun h₄ h2₄ hs₄ => wpAny_pure ?_)
  refine wpAny_pure (wpAny_pure ?_)
  have sz : h₄.objs.size = s.heap.objs.size := by rw [hs₄.1, hs₂.1, hs₁.1]
  refine wpAny_bind (wpAny_newTuple (hsz := by show 2 ≤ sizeLine; decide) (wpAny_pure ?_))
  have up : ∀ (c : Addr) (o : Obj), c ≠ z → c ≠ i1 → c ≠ i2 → s.heap.get? c = some o → h₄.get? c = some o := fun c o c1 c2 c3 e => hs₄.extBut _ _ c3 (hs₂.extBut _ _ c2 (hs₁.extBut _ _ c1 e))
  have hz₄ : HeldZ h₄ z TI TO a true := hs₄.extBut _ _ D.i2z.symm (hs₂.extBut _ _ D.i1z.symm hz₁)
  have h1₄ : h₄.IsTupleIter i1 l1 (k1 + 1) := h1₂.extBut hs₄.extBut D.i12
  refine ⟨_, rfl, wpAny_pure ?_⟩
  show Q (some (.ref h₄.objs.size)) _
  rw [sz]
  refine hQ _ (Heap.get?_push_of_some _ hz₄) (h1₄.at fun o e => Heap.get?_push_of_some _ e) (h2₄.at fun o e => Heap.get?_push_of_some _ e) ?_ (by rw [Heap.size_push, sz]) fun c o c1 c2 c3 e => Heap.get?_push_of_some _ (up c o c1 c2 c3 e)
  have := Heap.get?_push_size h₄ (o := { cls := .type "tuple", data := .seq #[x, y] }) rfl
  rw [sz] at this
  exact this

theorem held_end {Q : Option Value → Shared → Prop} (hh : A.handled = none) (D : ZipApart z TI TO i1 i2 l1 l2) (hz : HeldZ s.heap z TI TO a f) (ha : s.heap.get? a = some oa) (hTI : IsPair s.heap TI (.ref i1) (.ref i2))
    (h1 : s.heap.IsTupleIter i1 l1 k1) (h2 : s.heap.IsTupleIter i2 l2 k2) (hl1 : s.heap.IsTuple l1 xs) (hl2 : s.heap.IsTuple l2 ys) (hend : xs[k1]? = none ∨ ys[k2]? = none)
    (hQ : ∀ h', (∀ c o, c ≠ z → c ≠ i1 → c ≠ i2 → s.heap.get? c = some o → h'.get? c = some o) → Q none { s with heap := h' }) :
    wpAny (model prog w) A (pyNext (.ref z)) Q E s := by
  have hT : s.TypeIs (.ref z) "zip" := ⟨_, hz, rfl⟩
  unfold pyNext
  refine wpAny_bind (wpAny_attempt (wpAny_callSpecial?_slot (name := Str.ofString "__next__") hT F.slot_zip_next (wpAny_call_entry F.slot_zip_next hT F.entry_zip_next ?_ (F.args_zip_next_1 _))))
  have fin : ∀ (h' : Heap) (e : Addr), (∀ c o, c ≠ z → c ≠ i1 → c ≠ i2 → s.heap.get? c = some o → h'.get? c = some o) → (∃ o, h'.get? e = some o ∧ o.cls = .type "StopIteration") → wpAny (model prog w) A (isInstance (.ref e) (.type "StopIteration") >>= fun b => if b = true then pure none else throw (.ref e)) Q E { s with heap := h' } := fun h' e hk ⟨o, ho, hc⟩ =>
    wpAny_bind (wpAny_isInstance (T := "StopIteration") (b := true) ⟨o, ho, hc⟩ isSubtype_stop (wpAny_pure (hQ h' hk)))
  show wpAny _ _ (field (.ref z) 2 >>= _) _ _ _
  refine wpAny_bind (wpAny_field hz rfl (x := .bool false) rfl ?_)
  show wpAny _ _ (field (.ref z) 3 >>= _) _ _ _
  refine wpAny_bind (wpAny_field hz rfl (x := .ref TI) rfl ?_)
  refine wpAny_bind (wpAny_seqItems hTI rfl ?_)
  show wpAny _ _ (Builtin.SmallTypes.ownedTupleIsFree (.ref z) >>= _) _ _ _
  refine wpAny_bind (held_free hz ha fun h₁ hz₁ hs₁ => ?_)
  simp only [Bool.false_eq_true, if_false]
  refine wpAny_bind ?_
  show wpAny _ _ (forIn #[Value.ref i1, Value.ref i2] _ _) _ _ _
  rw [← Array.forIn_toList]
  simp only [List.forIn_cons, List.forIn_nil]
  refine wpAny_bind (wpAny_bind (wpAny_holding ?_))
  show wpAny _ _ (Builtin.SmallTypes.nextOf (.ref i1) >>= _) _ _ _
  cases hx : xs[k1]? with
  | none =>
    refine wpAny_bind (nextOf_tuple_end hh (h1.extBut hs₁.extBut D.i1z) (hl1.extBut hs₁.extBut D.l1z) hx fun h₂ e hs₂ he => ?_)
    exact fin h₂ e (fun c o c1 c2 c3 x => hs₂ _ _ c2 (hs₁.extBut _ _ c1 x)) he
  | some x =>
    have hy : ys[k2]? = none := by rcases hend with h | h; rw [hx] at h; cases h; exact h
    refine wpAny_bind (nextOf_tuple_item (h1.extBut hs₁.extBut D.i1z) (hl1.extBut hs₁.extBut D.l1z) hx fun h₂ h1₂ hs₂ => wpAny_pure ?_)
    refine wpAny_pure ?_
    refine wpAny_bind (wpAny_bind (wpAny_holding ?_))
    show wpAny _ _ (Builtin.SmallTypes.nextOf (.ref i2) >>= _) _ _ _
    refine wpAny_bind (nextOf_tuple_end hh ((h2.extBut hs₁.extBut D.i2z).extBut hs₂.extBut D.i12.symm) ((hl2.extBut hs₁.extBut D.l2z).extBut hs₂.extBut D.l2i1) hy fun h₄ e hs₄ he => ?_)
    exact fin h₄ e (fun c o c1 c2 c3 x => hs₄ _ _ c3 (hs₂.extBut _ _ c2 (hs₁.extBut _ _ c1 x))) he

/-! ### the list -/
/-- the pairs made so far -/
structure Made (xs ys : Array Value) (lo : Addr) (h : Heap) (as : List Addr) : Prop where
  rise : as.Pairwise (· < ·)
  above : ∀ a ∈ as, lo ≤ a
  pairs : ∀ (j : Nat) (a : Addr), as[j]? = some a → ∃ x y, xs[j]? = some x ∧ ys[j]? = some y ∧ h.get? a = some { cls := .type "tuple", data := .seq #[x, y] }
theorem Made.there {xs ys : Array Value} {lo : Addr} {h : Heap} {as : List Addr} (g : Made xs ys lo h as) {a : Addr} (ha : a ∈ as) : a < h.objs.size := by
  obtain ⟨j, hj⟩ := List.mem_iff_getElem?.mp ha
  obtain ⟨_, _, _, _, e⟩ := g.pairs j a hj
  exact Heap.lt_size e
theorem Made.low {xs ys : Array Value} {lo lo' : Addr} {h : Heap} {as : List Addr} (g : Made xs ys lo h as) (hl : lo' ≤ lo) : Made xs ys lo' h as := ⟨g.rise, fun a ha => Nat.le_trans hl (g.above a ha), g.pairs⟩
/-- the zip's state between two turns; S the list -/
def Zst (h : Heap) (z TI TO i1 i2 l1 l2 S : Addr) (i : Nat) : Prop :=
  IsPair h TI (.ref i1) (.ref i2) ∧ h.IsTupleIter i1 l1 i ∧ h.IsTupleIter i2 l2 i ∧
  ((IsZip h z TI TO .none ∧ ∃ x y, IsPair h TO x y) ∨ ∃ a f oa, HeldZ h z TI TO a f ∧ h.get? a = some oa ∧ a ≠ z ∧ a ≠ i1 ∧ a ≠ i2 ∧ a ≠ S)
structure Far (S z TI TO i1 i2 l1 l2 : Addr) : Prop where
  z : z ≠ S
  TI : TI ≠ S
  TO : TO ≠ S
  i1 : i1 ≠ S
  i2 : i2 ≠ S
  l1 : l1 ≠ S
  l2 : l2 ≠ S
theorem Zst.keep {h h' : Heap} {S : Addr} {i : Nat} (x : Zst h z TI TO i1 i2 l1 l2 S i) (F : Far S z TI TO i1 i2 l1 l2) (hk : ∀ b o, b ≠ S → h.get? b = some o → h'.get? b = some o) : Zst h' z TI TO i1 i2 l1 l2 S i := by
  obtain ⟨hTI, h1, h2, st⟩ := x
  refine ⟨hk _ _ F.TI hTI, h1.at fun o e => hk _ o F.i1 e, h2.at fun o e => hk _ o F.i2 e, ?_⟩
  rcases st with ⟨hz, u, v, hTO⟩ | ⟨a, f, oa, hz, ha, n1, n2, n3, n4⟩
  · exact .inl ⟨hk _ _ F.z hz, u, v, hk _ _ F.TO hTO⟩
  · exact .inr ⟨a, f, oa, hk _ _ F.z hz, hk _ _ n4 ha, n1, n2, n3, n4⟩
theorem Zst.lt {h : Heap} {S : Addr} {i : Nat} (x : Zst h z TI TO i1 i2 l1 l2 S i) : z < h.objs.size := by
  rcases x.2.2.2 with ⟨hz, _⟩ | ⟨_, _, _, hz, _⟩ <;> exact Heap.lt_size hz
theorem z_item {S : Addr} {i : Nat} {x y : Value} {Q : Option Value → Shared → Prop} (D : ZipApart z TI TO i1 i2 l1 l2) (st : Zst s.heap z TI TO i1 i2 l1 l2 S i) (hS : S < s.heap.objs.size)
    (hl1 : s.heap.IsTuple l1 xs) (hl2 : s.heap.IsTuple l2 ys) (hx : xs[i]? = some x) (hy : ys[i]? = some y)
    (hQ : ∀ h', Zst h' z TI TO i1 i2 l1 l2 S (i + 1) → IsPair h' s.heap.objs.size x y → h'.objs.size = s.heap.objs.size + 1 →
      (∀ c o, c ≠ z → c ≠ TO → c ≠ i1 → c ≠ i2 → s.heap.get? c = some o → h'.get? c = some o) → Q (some (.ref s.heap.objs.size)) { s with heap := h' }) :
    wpAny (model prog w) A (pyNext (.ref z)) Q E s := by
  have zl := st.lt
  obtain ⟨hTI, h1, h2, st⟩ := st
  have l1' : i1 < s.heap.objs.size := by obtain ⟨_, e, _⟩ := h1; exact Heap.lt_size e
  have l2' : i2 < s.heap.objs.size := by obtain ⟨_, e, _⟩ := h2; exact Heap.lt_size e
  rcases st with ⟨hz, u, v, hTO⟩ | ⟨a, f, oa, hz, ha, n1, n2, n3, n4⟩
  · refine pyNext_zipT_item D hz hTI hTO h1 h2 hl1 hl2 hx hy fun h' hz' hTO' h1' h2' hP hsz hk => hQ h' ⟨hk _ _ D.TIz D.TITO D.TIi1 D.TIi2 hTI, h1', h2', .inr ⟨_, false, _, hz', hP, Nat.ne_of_gt zl, Nat.ne_of_gt l1', Nat.ne_of_gt l2', Nat.ne_of_gt hS⟩⟩ hP hsz hk
  · refine held_next D hz ha hTI h1 h2 hl1 hl2 hx hy fun h' hz' h1' h2' hP hsz hk => hQ h' ⟨hk _ _ D.TIz D.TIi1 D.TIi2 hTI, h1', h2', .inr ⟨a, true, oa, hz', hk _ _ n1 n2 n3 ha, n1, n2, n3, n4⟩⟩ hP hsz fun c o c1 _ c3 c4 e => hk c o c1 c3 c4 e
theorem z_done {S : Addr} {i : Nat} {Q : Option Value → Shared → Prop} (hh : A.handled = none) (D : ZipApart z TI TO i1 i2 l1 l2) (st : Zst s.heap z TI TO i1 i2 l1 l2 S i)
    (hl1 : s.heap.IsTuple l1 xs) (hl2 : s.heap.IsTuple l2 ys) (hend : xs[i]? = none ∨ ys[i]? = none)
    (hQ : ∀ h', (∀ c o, c ≠ z → c ≠ TO → c ≠ i1 → c ≠ i2 → s.heap.get? c = some o → h'.get? c = some o) → Q none { s with heap := h' }) : wpAny (model prog w) A (pyNext (.ref z)) Q E s := by
  obtain ⟨hTI, h1, h2, st⟩ := st
  rcases st with ⟨hz, u, v, hTO⟩ | ⟨a, f, oa, hz, ha, n1, n2, n3, n4⟩
  · exact pyNext_zipT_end hh D hz hTI hTO h1 h2 hl1 hl2 hend hQ
  · exact held_end hh D hz ha hTI h1 h2 hl1 hl2 hend fun h' hk => hQ h' fun c o c1 _ c3 c4 e => hk c o c1 c3 c4 e
end
section
variable {prog : Program} {w : World} {A : Around} {s : Shared} {R : Result → Shared → Prop} {z TI TO i1 i2 l1 l2 : Addr} {xs ys : Array Value}
theorem z_loop {S : Addr} (hh : A.handled = none) (D : ZipApart z TI TO i1 i2 l1 l2) (F : Far S z TI TO i1 i2 l1 l2) (n : Nat) (hn : n = min xs.size ys.size) (hsz : n ≤ sizeLine) (res : Value) (lo : Addr) {h₁ : Heap}
    (big : z < lo ∧ TI < lo ∧ TO < lo ∧ i1 < lo ∧ i2 < lo ∧ l1 < lo ∧ l2 < lo ∧ S < lo)
    (hR : ∀ h' tk acc c as, (∀ b o, b ≠ S → b ≠ z → b ≠ TO → b ≠ i1 → b ≠ i2 → h₁.get? b = some o → h'.get? b = some o) → h'.get? S = some { cls := .type "list", dict := none, data := .seq acc c, slots := #[] } → as.length = n → Made xs ys lo h' as →
      acc.toList = as.map Value.ref → R (.ok (.ret res)) { s with heap := h', toks := tk }) :
    ∀ (k i : Nat) (h : Heap) (tk c : Nat) (acc : Array Value) (as : List Addr), n - i = k → i ≤ n → Zst h z TI TO i1 i2 l1 l2 S i → h.IsTuple l1 xs → h.IsTuple l2 ys → (∀ b o, b ≠ S → b ≠ z → b ≠ TO → b ≠ i1 → b ≠ i2 → h₁.get? b = some o → h.get? b = some o) →
      h.get? S = some { cls := .type "list", dict := none, data := .seq acc c, slots := #[] } → acc.toList = as.map Value.ref → as.length = i → Made xs ys lo h as → lo ≤ h.objs.size →
      codeAny (model prog w) A (.builtin "list.extend.loop" ⟨[.ref S, .ref z, res], []⟩) R { s with heap := h, toks := tk } := by
  obtain ⟨b1, b2, b3, b4, b5, b6, b7, b8⟩ := big
  have far : ∀ {p a : Addr}, p < lo → lo ≤ a → a ≠ p := fun h1 h2 => Nat.ne_of_gt (Nat.lt_of_lt_of_le h1 h2)
  have nS : S ≠ z ∧ S ≠ TO ∧ S ≠ i1 ∧ S ≠ i2 := ⟨F.z.symm, F.TO.symm, F.i1.symm, F.i2.symm⟩
  intro k
  induction k with
  | zero =>
    intro i h tk c acc as hk hi hst hl1 hl2 hkeep hS hacc hal hG hIs
    have hin : i = n := by omega
    refine codeAny_builtin PySem.F.entry_extend_loop ?_
    rw [Around.under_plainId PySem.F.plain_extend_loop _]
    show wpAny _ A.in1 (pyNext (.ref z) >>= _) _ _ _
    have he : xs[i]? = none ∨ ys[i]? = none := by
      rcases Nat.le_total xs.size ys.size with h | h
      · exact .inl (Array.getElem?_eq_none (by omega))
      · exact .inr (Array.getElem?_eq_none (by omega))
    refine wpAny_bind (z_done (s := { s with heap := h, toks := tk }) (A := A.in1) hh D hst hl1 hl2 he fun h' hk' => ?_)
    refine wpAny_pure (hR h' tk acc c as (fun b o h0 h1 h2 h3 h4 e => hk' b o h1 h2 h3 h4 (hkeep b o h0 h1 h2 h3 h4 e)) (hk' S _ nS.1 nS.2.1 nS.2.2.1 nS.2.2.2 hS) (by omega) ⟨hG.rise, hG.above, fun j a hj => ?_⟩ hacc)
    obtain ⟨x, y, e1, e2, e3⟩ := hG.pairs j a hj
    have ha := hG.above a (List.mem_of_getElem? hj)
    exact ⟨x, y, e1, e2, hk' a _ (far b1 ha) (far b3 ha) (far b4 ha) (far b5 ha) e3⟩
  | succ k ih =>
    intro i h tk c acc as hk hi hst hl1 hl2 hkeep hS hacc hal hG hIs
    have hlt : i < n := by omega
    have hx : xs[i]? = some xs[i] := Array.getElem?_eq_getElem (by omega)
    have hy : ys[i]? = some ys[i] := Array.getElem?_eq_getElem (by omega)
    have hsz' : acc.size = i := by rw [← Array.length_toList, hacc, List.length_map, hal]
    have hSl : S < h.objs.size := Heap.lt_size hS
    refine codeAny_builtin PySem.F.entry_extend_loop ?_
    rw [Around.under_plainId PySem.F.plain_extend_loop _]
    show wpAny _ A.in1 (pyNext (.ref z) >>= _) _ _ _
    refine wpAny_bind (z_item (s := { s with heap := h, toks := tk }) (S := S) D hst hSl hl1 hl2 hx hy fun h' hst' ht hz hkp => ?_)
    dsimp only at ht hz hkp ⊢
    have hS' := hkp S _ nS.1 nS.2.1 nS.2.2.1 nS.2.2.2 hS
    have up : ∀ b o, b ≠ S → h'.get? b = some o → (h'.update S (Obj.mapSeq (·.push (Value.ref h.objs.size)))).get? b = some o := fun b o hb e => (Heap.get?_update_other _ _ (Ne.symm hb)).trans e
    have tl1 : h'.IsTuple l1 xs := hl1.at fun o e => hkp _ o D.l1z D.l1TO D.l1i1 D.l1i2 e
    have tl2 : h'.IsTuple l2 ys := hl2.at fun o e => hkp _ o D.l2z D.l2TO D.l2i1 D.l2i2 e
    show wpAny _ A.in1 (updateSeq S (·.push (Value.ref h.objs.size)) >>= _) _ _ _
    refine wpAny_bind ?_
    refine wpAny_updateSeq hS' rfl (wpAny_pure ⟨plainId_quiet PySem.F.plain_extend_loop _, ih (i + 1) _ tk _ (acc.push (Value.ref h.objs.size)) (as ++ [h.objs.size]) (by omega) hlt (hst'.keep F up) (tl1.at fun o e => up _ o F.l1 e) (tl2.at fun o e => up _ o F.l2 e)
      (fun b o h0 h1 h2 h3 h4 e => up b o h0 (hkp b o h1 h2 h3 h4 (hkeep b o h0 h1 h2 h3 h4 e))) (Heap.get?_update_self _ hS' rfl) (by rw [Array.toList_push, hacc, List.map_append]; rfl) (by rw [List.length_append, hal]; rfl) ⟨?_, ?_, ?_⟩ ?_⟩) (by rw [hsz']; omega) (by show (acc.push (Value.ref h.objs.size)).size ≤ sizeLine + 1; rw [Array.size_push, hsz']; omega)
    · refine List.pairwise_append.mpr ⟨hG.rise, List.pairwise_singleton _ _, fun a ha b hb => ?_⟩
      rw [List.mem_singleton.mp hb]
      exact hG.there ha
    · intro a ha
      rcases List.mem_append.mp ha with ha | ha
      · exact hG.above a ha
      · rw [List.mem_singleton.mp ha]; exact hIs
    · intro j b hj
      rcases Nat.lt_trichotomy j as.length with h1 | h1 | h1
      · rw [List.getElem?_append_left h1] at hj
        obtain ⟨x', y', e1, e2, e3⟩ := hG.pairs j b hj
        have hb := hG.above b (List.mem_of_getElem? hj)
        exact ⟨x', y', e1, e2, up b _ (far b8 hb) (hkp b _ (far b1 hb) (far b3 hb) (far b4 hb) (far b5 hb) e3)⟩
      · subst h1
        have hb : h.objs.size = b := by simpa using hj
        subst hb
        exact ⟨_, _, by rw [hal]; exact hx, by rw [hal]; exact hy, up _ _ (Nat.ne_of_gt hSl) ht⟩
      · have hnone : (as ++ [h.objs.size])[j]? = none := List.getElem?_eq_none (by rw [List.length_append, List.length_singleton]; omega)
        rw [hnone] at hj; cases hj
    · have e : (h'.update S (Obj.mapSeq (·.push (Value.ref h.objs.size)))).get? h.objs.size = _ := up _ _ (Nat.ne_of_gt hSl) ht
      exact Nat.le_trans hIs (Nat.le_of_lt (Heap.lt_size e))
end
theorem zip_nolen : typeLookup (.type "zip") "__len__" = pure none := by rw [typeLookup_type, builtinLookup_eq_fast]; kernel_rfl
theorem zip_nohint : typeLookup (.type "zip") "__length_hint__" = pure none := by rw [typeLookup_type, builtinLookup_eq_fast]; kernel_rfl

section
variable {prog : Program} {w : World} {A : Around} {E : Value → Shared → Prop} {s : Shared} {z TI TO i1 i2 l1 l2 : Addr} {xs ys : Array Value}
/-- where the zip's own objects stand behind its making, and apart -/
theorem z_apart {N l1 l2 : Addr} (h1 : l1 < N) (h2 : l2 < N) : ZipApart (N + 4) (N + 2) (N + 3) N (N + 1) l1 l2 := PySem.W.ktu_apart N l1 l2 h1 h2
theorem z_call {N : Addr} {Q : Value → Shared → Prop} (hh : A.handled = none) (hN : s.heap.objs.size = N + 5) (h1 : l1 < N) (h2 : l2 < N) (hz : IsZip s.heap (N + 4) (N + 2) (N + 3) .none) (hTI : IsPair s.heap (N + 2) (.ref N) (.ref (N + 1))) (hTO : IsPair s.heap (N + 3) .none .none)
    (hi1 : s.heap.IsTupleIter N l1 0) (hi2 : s.heap.IsTupleIter (N + 1) l2 0) (hl1 : s.heap.IsTuple l1 xs) (hl2 : s.heap.IsTuple l2 ys) (n : Nat) (hn : n = min xs.size ys.size) (hsz : n ≤ sizeLine)
    (hQ : ∀ h' tk acc c as, (∀ b o, b < N → s.heap.get? b = some o → h'.get? b = some o) → h'.get? (N + 5) = some { cls := .type "list", dict := none, data := .seq acc c, slots := #[] } → as.length = n → Made xs ys (N + 6) h' as →
      acc.toList = as.map Value.ref → Q (.ref (N + 5)) { s with heap := h', toks := tk }) :
    wpAny (model prog w) A (call (.type "list") [.ref (N + 4)]) Q E s := by
  have D : ZipApart (N + 4) (N + 2) (N + 3) N (N + 1) l1 l2 := z_apart h1 h2
  have nn : ∀ {a b : Nat}, a < b → (a : Addr) ≠ b := fun h => Nat.ne_of_lt h
  have F : Far (N + 5) (N + 4) (N + 2) (N + 3) N (N + 1) l1 l2 := ⟨nn (Nat.lt_succ_self _), nn (Nat.add_lt_add_left (by decide) _), nn (Nat.add_lt_add_left (by decide) _), nn (Nat.lt_add_of_pos_right (by decide)), nn (Nat.add_lt_add_left (by decide) _), nn (Nat.lt_of_lt_of_le h1 (Nat.le_add_right _ _)), nn (Nat.lt_of_lt_of_le h2 (Nat.le_add_right _ _))⟩
  refine callType_codes (Q₁ := fun obj s₁ => obj = .ref s.heap.objs.size ∧ s₁ = { s with heap := s.heap.push { cls := .type "list", data := .seq #[] } }) PySem.F.called_list (PySem.F.typeCall_list_1 _) PySem.F.entry_list_init
    (code_list_new _ ⟨rfl, rfl⟩) fun obj s₁ h₁ => ?_
  obtain ⟨rfl, rfl⟩ := h₁
  rw [hN]
  have hS : (s.heap.push { cls := .type "list", data := .seq #[] }).get? (N + 5) = some { cls := .type "list", data := .seq #[] } := by
    have := Heap.get?_push_size s.heap (o := { cls := .type "list", data := .seq #[] }) rfl
    rw [hN] at this
    exact this
  have k0 : ∀ b o, s.heap.get? b = some o → (s.heap.push { cls := .type "list", data := .seq #[] }).get? b = some o := fun b o e => Heap.get?_push_of_some _ e
  have sz0 : (s.heap.push { cls := .type "list", data := .seq #[] }).objs.size = N + 6 := by rw [Heap.size_push, hN]
  generalize s.heap.push { cls := .type "list", data := .seq #[] } = g0 at hS k0 sz0 ⊢
  refine ⟨⟨_, hS, rfl⟩, PySem.F.args_list_init_2 _ _, ?_⟩
  show wpAny _ _ (do let old ← Builtin.List.listItems (.ref (N + 5)); Builtin.List.listUpdate (.ref (N + 5)) (fun _ => #[]); letGo old.toList.reverse; Builtin.List.listExtendWith (.ref (N + 5)) (.ref (N + 4)) .none) _ _ _
  refine wpAny_bind ?_
  unfold Builtin.List.listItems
  refine wpAny_bind (wpAny_seqItems hS rfl (wpAny_pure ?_))
  show wpAny _ _ (updateSeq (N + 5) (fun _ => #[]) >>= fun _ => letGo (#[] : Array Value).toList.reverse >>= fun _ => Builtin.List.listExtendWith (.ref (N + 5)) (.ref (N + 4)) .none) _ _ _
  refine wpAny_bind (wpAny_updateSeq hS rfl ?_)
  have hS2 := Heap.get?_update_self (Obj.mapSeq (fun _ => (#[] : Array Value))) hS rfl
  have up : ∀ (h : Heap) (f : Obj → Obj), (∀ b o, b ≠ N + 5 → s.heap.get? b = some o → h.get? b = some o) → ∀ b o, b ≠ N + 5 → s.heap.get? b = some o → (h.update (N + 5) f).get? b = some o := fun h f q b o hb e =>
    (Heap.get?_update_other _ _ (Ne.symm hb)).trans (q b o hb e)
  have k2 := up _ (Obj.mapSeq (fun _ => (#[] : Array Value))) (fun b o _ e => k0 b o e)
  have szu : ∀ (h : Heap) (f : Obj → Obj), (h.update (N + 5) f).objs.size = h.objs.size := fun h f => Heap.size_update ..
  have sz2 := (szu g0 (Obj.mapSeq (fun _ => (#[] : Array Value)))).trans sz0
  generalize g0.update (N + 5) (Obj.mapSeq (fun _ => (#[] : Array Value))) = g2 at hS2 k2 sz2 ⊢
  refine wpAny_bind (wpAny_letGo ?_)
  unfold Builtin.List.listExtendWith
  have tz : ∀ {h : Heap} {tk : Nat}, (∀ b o, b ≠ N + 5 → s.heap.get? b = some o → h.get? b = some o) → Shared.TypeIs { s with heap := h, toks := tk } (.ref (N + 4)) "zip" := fun {h tk} k => ⟨_, k _ _ F.z hz, rfl⟩
  refine wpAny_bind (wpAny_typeOf (T := "zip") (tz k2) ?_)
  have e1 : Builtin.List.listSameRef (.ref (N + 5)) (.ref (N + 4)) = false := by simp [Builtin.List.listSameRef, Ne.symm F.z]
  have e2 : (Value.type "zip" == Value.type "list") = false := by decide
  have e3 : (Value.type "zip" == Value.type "tuple") = false := by decide
  simp only [e1, e2, e3, Bool.or_false, Bool.false_eq_true, if_false]
  refine wpAny_bind (wpAny_pyIter_zip (TI := N + 2) (TO := N + 3) (k2 _ _ F.z hz) ?_)
  refine wpAny_bind (wpAny_holding ?_)
  unfold Builtin.List.listLengthHint
  refine wpAny_bind (wpAny_specialOf (tz k2) zip_nolen ?_)
  show wpAny _ _ (specialOf (Value.ref (N + 4)) (Str.ofString "__length_hint__") >>= _) _ _ _
  refine wpAny_bind (wpAny_specialOf (tz k2) zip_nohint ?_)
  refine wpAny_pure ?_
  show wpAny _ _ (rule "list.extend.makes-room" >>= fun _ => Builtin.List.listTouch (.ref (N + 5)) >>= fun _ => again (.builtin "list.extend.loop" ⟨[.ref (N + 5), .ref (N + 4), .none], []⟩)) _ _ _
  refine wpAny_bind (wpAny_rule ?_)
  refine wpAny_bind ?_
  show wpAny _ _ (updateSeq (N + 5) (·.push .none) >>= fun _ => updateSeq (N + 5) (·.pop)) _ _ _
  refine wpAny_bind (wpAny_updateSeq hS2 rfl ?_)
  have hS3 := Heap.get?_update_self (Obj.mapSeq (·.push Value.none)) hS2 rfl
  refine wpAny_updateSeq (hz := by seq_fits) hS3 rfl ?_
  have hS4 := Heap.get?_update_self (Obj.mapSeq (·.pop)) hS3 rfl
  have k4 := up _ (Obj.mapSeq (·.pop)) (up _ (Obj.mapSeq (·.push Value.none)) k2)
  have sz4 := (szu (g2.update (N + 5) (Obj.mapSeq (·.push Value.none))) (Obj.mapSeq (·.pop))).trans ((szu g2 (Obj.mapSeq (·.push Value.none))).trans sz2)
  generalize (g2.update (N + 5) (Obj.mapSeq (·.push Value.none))).update (N + 5) (Obj.mapSeq (·.pop)) = g4 at hS4 k4 sz4 ⊢
  have lt : ∀ k : Nat, k < 6 → N + k < N + 6 := fun k hk => Nat.add_lt_add_left hk N
  refine wpAny_pure ⟨plainId_quiet PySem.F.plain_extend_loop _, ?_⟩
  refine z_loop (prog := prog) (w := w) (A := A.in1) (s := s) (h₁ := s.heap) hh D F n hn hsz .none (N + 6) ⟨lt 4 (by decide), lt 2 (by decide), lt 3 (by decide), lt 0 (by decide), lt 1 (by decide), Nat.lt_of_lt_of_le h1 (Nat.le_add_right _ _), Nat.lt_of_lt_of_le h2 (Nat.le_add_right _ _), lt 5 (by decide)⟩
    (fun h' tk acc c as hk hS' hl hG hacc => ⟨rfl, hQ h' tk acc c as (fun b o hb e => hk b o (nn (Nat.lt_of_lt_of_le hb (Nat.le_add_right _ _))) (nn (Nat.lt_of_lt_of_le hb (Nat.le_add_right _ _))) (nn (Nat.lt_of_lt_of_le hb (Nat.le_add_right _ _))) (Nat.ne_of_lt hb) (nn (Nat.lt_of_lt_of_le hb (Nat.le_add_right _ _))) e) hS' hl hG hacc⟩)
    n 0 g4 _ _ #[] [] (Nat.sub_zero _) (Nat.zero_le _) ⟨k4 _ _ F.TI hTI, hi1.at fun o e => k4 _ o F.i1 e, hi2.at fun o e => k4 _ o F.i2 e, .inl ⟨k4 _ _ F.z hz, _, _, k4 _ _ F.TO hTO⟩⟩ (hl1.at fun o e => k4 _ o F.l1 e) (hl2.at fun o e => k4 _ o F.l2 e)
    (fun b o h0 _ _ _ _ e => k4 b o h0 e) hS4 rfl rfl ⟨List.Pairwise.nil, (fun _ ha => nomatch ha), (fun j a hj => by simp at hj)⟩ (by rw [sz4]; exact Nat.le_refl _)
end
end Lz

set_option Elab.async false
set_option linter.all false
set_option maxRecDepth 100000
set_option maxHeartbeats 1000000
/-! Ez: enumerate(t) of a tuple walked. -/
namespace PySem
open Sem (wp)
theorem Pv_enum_new (l : Addr) (items : Array Value) :
    Meets (Builtin.«enumerate.__new__» ⟨[.type "enumerate", .ref l], []⟩) (fun _ R s => s.heap.IsTuple l items ∧
      R (.ok (.ret (.ref (s.heap.push { cls := .type "tuple_iterator", data := .fields #[.ref l, .int 0 0] }).objs.size)))
        { s with heap := (s.heap.push { cls := .type "tuple_iterator", data := .fields #[.ref l, .int 0 0] }).push { cls := .type "enumerate", data := .fields #[.none, .bool false, .ref s.heap.objs.size, rawInt 0, .none, .none] } }) :=
  .of_wp fun prog w A R s h => by
    obtain ⟨hp, g, d, tk, os⟩ := s; obtain ⟨hl, h⟩ := h
    have hsub := sub_enumerate
    have q1 : ∀ {A' : Around} {E : Value → Shared → Prop} {Q : Value → Shared → Prop}, Q (.ref hp.objs.size) ⟨hp.push { cls := .type "tuple_iterator", data := .fields #[.ref l, .int 0 0] }, g, d, tk, os⟩ → wpAny (model prog w) A' (pyIter (.ref l)) Q E ⟨hp, g, d, tk, os⟩ :=
      fun q => (begins_tuple l items).iter prog w _ _ ⟨hp, g, d, tk, os⟩ _ hl q
    wp_walk using q1
    refine wpAny_stack_any fun st => wpAny_pure ?_
    split
    · rename_i c _ _ _ _ _
      cases (c == Value.type "enumerate")
      · wp_walk using q1
        exact ⟨_, rfl, h⟩
      · wp_walk using q1
        exact ⟨_, rfl, h⟩
    · wp_walk using q1
      exact ⟨_, rfl, h⟩
end PySem
namespace Ez
open PySem PySem.Spec PyProof.Rows L2
section
variable {prog : Program} {w : World} {A : Around} {E : Value → Shared → Prop} {s : Shared}
theorem call_enumerate_tuple {l : Addr} {items : Array Value} {Q : Value → Shared → Prop} (hL : s.heap.IsTuple l items)
    (h : ∀ h', IsEnum h' (s.heap.objs.size + 1) s.heap.objs.size 0 .none → h'.IsTupleIter s.heap.objs.size l 0 → h'.objs.size = s.heap.objs.size + 2 →
      (∀ b o, s.heap.get? b = some o → h'.get? b = some o) → Q (.ref (s.heap.objs.size + 1)) { s with heap := h' }) :
    wpAny (model prog w) A (call (.type "enumerate") [.ref l]) Q E s := by
  refine callType_new F.called_enumerate (by decide) (F.typeCall_enumerate_1 _) (F.newCall_enumerate_1 _) (fun obj => F.args_object_init_2 obj _) F.entry_enumerate_new
    (Pv_enum_new l items) ⟨hL, ?_⟩
  have hz : (s.heap.push { cls := .type "tuple_iterator", data := .fields #[.ref l, .int 0 0] }).objs.size = s.heap.objs.size + 1 := Heap.size_push ..
  show _ ∧ _
  rw [hz]
  have he : IsEnum ((s.heap.push { cls := .type "tuple_iterator", data := .fields #[.ref l, .int 0 0] }).push
      { cls := .type "enumerate", data := .fields #[.none, .bool false, .ref s.heap.objs.size, rawInt 0, .none, .none] }) (s.heap.objs.size + 1) s.heap.objs.size 0 .none := by
    have := Heap.get?_push_size (s.heap.push { cls := .type "tuple_iterator", data := .fields #[.ref l, .int 0 0] })
      (o := { cls := .type "enumerate", data := .fields #[.none, .bool false, .ref s.heap.objs.size, rawInt 0, .none, .none] }) rfl
    rw [hz] at this; exact this
  exact ⟨⟨_, he, rfl⟩, h _ he ⟨_, Heap.get?_push_of_some _ (Heap.get?_push_size _ rfl), rfl, rfl⟩ (by rw [Heap.size_push, hz]) fun b o x => Heap.get?_push_of_some _ (Heap.get?_push_of_some _ x)⟩
end
/-- the tuple at a, its items in new pairs with their places -/
def IteT (K : PySem.W.Frag) (a : Addr) : It :=
  ⟨fun i H => ∃ (xs : List V) (x : V), SqT K H a xs ∧ xs[i]? = some x, fun i H v H' => ∃ T x, v = .ref T ∧ H T = none ∧ H' = upd H T (.tup [.int (i : Nat), x]) ∧ ∀ xs, SqT K H a xs → xs[i]? = some x, fun i H => ∃ xs : List V, SqT K H a xs ∧ xs.length ≤ i⟩
theorem turn_enumT {P : Program} {w : World} {K : PySem.W.Frag} {elts : List Expr} {kk : Nat} {tpos : Pos} (a e it : Addr) (ha : a ≠ it) (hae : a ≠ e) :
    Turn P w K (.Tuple elts kk tpos) (IteT K a) [e, it] e (fun i h => (∃ old, IsEnum h e it ((i : Nat) : Int) old) ∧ h.IsTupleIter it a i ∧ e ≠ it) where
  mem := by simp
  obj := fun i h st b hb => by
    obtain ⟨⟨old, he⟩, ⟨o, ho, hc, hd⟩, _⟩ := st
    have e' : b = e ∨ b = it := by simpa using hb
    rcases e' with z | z
    · rw [z]; exact ⟨_, he, fun v q => nomatch q⟩
    · rw [z]; exact ⟨o, ho, fun v q => by rw [hd] at q; cases q⟩
  keep := fun i h h' st k => let ⟨⟨old, he⟩, hi, hne⟩ := st; ⟨⟨old, k e (by simp) _ he⟩, hi.at fun o q => k it (by simp) o q, hne⟩
  item := by
    intro X hP hw hK hc i pins s σ H E I hf st hg
    subst hP hw hK
    obtain ⟨⟨old, he⟩, hit, hne⟩ := st
    obtain ⟨xs, x, hq, hx⟩ := hg
    obtain ⟨its, rv, p, hz⟩ := I.tuple hq
    obtain ⟨u, hu, ru⟩ := rv.get hx
    have hel : e < s.heap.objs.size := Heap.lt_size he
    have hil : it < s.heap.objs.size := by obtain ⟨_, q, _⟩ := hit; exact Heap.lt_size q
    have hlt : i < its.toArray.size := by
      obtain ⟨h1, _⟩ := List.getElem?_eq_some_iff.mp hu
      simpa using h1
    have D := Draws.tuple (prog := X.prog) (w := X.w) (A := X.A.in1) (I.ok.hd hc) it a ha its.toArray
    refine wpAny_pyNext_enum_itemC D he ⟨hit, p⟩ hlt hne (by simp [hne, Ne.symm hae]) fun v h' tk hv ho hst' hT hsz hk => ?_
    have ev : v = u := by
      rw [show its.toArray[i]? = its[i]? by simp, hu] at hv
      exact (Option.some.inj hv).symm
    subst ev
    refine ⟨_, rfl, wpAny_letOwnedTupleGo_enum (s := { s with heap := h', toks := tk + 1 }) ho fun h'' he' sb => ?_⟩
    have hT2 : h''.get? s.heap.objs.size = some { cls := .type "tuple", data := .seq #[.int i tk, v] } := (sb.2 _ (Nat.ne_of_gt hel)).trans hT
    have new : ObjOk X.prog X.w (upd H s.heap.objs.size (.tup [.int (i : Nat), x])) h'' s.heap.objs.size (.tup [.int (i : Nat), x]) :=
      ⟨by show 2 ≤ sizeLine; decide, [.int i tk, v], .cons ⟨_, rfl⟩ (.cons ru .nil), ⟨_, hT2, rfl, _, rfl⟩⟩
    have I1 : Inv X pins σ (upd H s.heap.objs.size (.tup [.int (i : Nat), x])) { s with heap := h'', toks := tk + 1 } :=
      I.turnedNew (ch := [e, it]) (fun b ob hb q => (sb.2 b (fun z => hb (by simp [z]))).trans (hk b ob (fun z => hb (by simp [z])) (fun z => hb (by simp [z])) q)) hf (Nat.le_refl _) new
    refine ⟨.ref s.heap.objs.size, _, I1, rfl, ⟨_, x, rfl, I.hok.fresh (Nat.le_refl _), rfl, fun ys hy => by rw [I.tuple_inj hy hq]; exact hx⟩, ⟨⟨v, ?_⟩, hst'.1.at fun o q => (sb.2 it (Ne.symm hne)).trans q, hne⟩, fun b hb => ?_⟩
    · have e1 : ((i + 1 : Nat) : Int) = (i : Int) + 1 := by omega
      rw [e1]; exact he'
    · have hb' : b < s.heap.objs.size := by
        have e' : b = e ∨ b = it := by simpa using hb
        rcases e' with z | z
        · rw [z]; exact hel
        · rw [z]; exact hil
      rw [upd_ne (Nat.ne_of_lt hb')]
      exact (hf b hb).1
  done := by
    intro X hP hw hK hc i pins s σ H E I hf st hg
    subst hP hw hK
    obtain ⟨⟨old, he⟩, hit, hne⟩ := st
    obtain ⟨xs, hq, hx⟩ := hg
    obtain ⟨its, rv, p, hz⟩ := I.tuple hq
    obtain ⟨f0, f1, f2, f3, f4, f5⟩ := hf it (by simp)
    have hl := rv.length
    have D : Draws X.prog X.w X.A.in1 it [it, a] i (fun _ _ => True) (fun j h => j = i ∧ h.IsTupleIter it a i ∧ h.IsTuple a its.toArray) := {
      live := fun _ _ st => let ⟨o, ho, _⟩ := st.2.1; ⟨o, ho⟩
      frame := fun _ _ _ st hk => ⟨st.1, st.2.1.at fun o e => hk it (by simp) o e, st.2.2.at fun o e => hk a (by simp) o e⟩
      item := fun j s Q E hj st hQ => absurd st.1 (Nat.ne_of_lt hj)
      done := fun s Q E st hE => RZ.nextOf_tuple_end (I.ok.hd hc) st.2.1 st.2.2 (by simp; omega) hE }
    exact wpAny_pyNext_enum_endD D he ⟨rfl, hit, p⟩ fun h' eb => ⟨rfl, I.turned (t' := s.toks) (fun b o hb q => eb b o hb q) f0 f1 f3 f4 f5⟩
  self := fun A i s Q E st h => let ⟨⟨_, he⟩, _⟩ := st; wpAny_pyIter_enum he h
def iEnumA (K : PySem.W.Frag) (ta : TA) : TI := fun σ H R => ta σ H fun vs H1 => ∃ a xs, vs = [.ref a] ∧ ((SqL K H1 a xs ∧ R (Ite K a) H1) ∨ (SqT K H1 a xs ∧ R (IteT K a) H1))
theorem pi_enumA {X : Cx} {e : Expr} {ta : TA} {p pos tpos : Pos} {elts : List Expr} {kk : Nat} (hg : Gl X "enumerate") (hm : X.mg "enumerate" = none) (ha : PA X [e] ta) (hs : starEach [e] X.env = [(false, eval e X.env)]) :
    PI X (.Tuple elts kk tpos) (.Call (.Name "enumerate" p) [e] [] pos) (iEnumA X.K ta) := by
  refine ⟨fun pins s σ H R I h => ?_⟩
  refine Call_ (ld_blt I hg hm boot_enumerate (PyProof.Rows.callWith_type1 (thn (ha.run pos pins s σ H _ I h) fun us s1 ⟨vs, H1, I1, r1, q1⟩ => ?_) hs rfl))
  obtain ⟨a, xs, ex, q1⟩ := q1
  subst ex
  cases r1 with
  | cons r rr =>
    cases rr
    cases r
    have fresh2 : ∀ b, b ∈ [s1.heap.objs.size + 1, s1.heap.objs.size] → FpOk X pins H1 b := fun b hb => by
      have e' : b = s1.heap.objs.size + 1 ∨ b = s1.heap.objs.size := by simpa using hb
      have hle : s1.heap.objs.size ≤ b := by
        rcases e' with z | z
        · rw [z]; exact Nat.le_add_right _ _
        · rw [z]; exact Nat.le_refl _
      exact I1.fpOk hle (I1.hok.fresh hle)
    rcases q1 with ⟨hq, q⟩ | ⟨hq, q⟩
    · obtain ⟨its, rv, p', _⟩ := I1.list hq
      refine call_enumerate_list p'.isList fun h' he hit hsz hk => wpAny_pyIter_enum he ?_
      have I2 : Inv X pins σ H1 { s1 with heap := h' } := I1.kept (t' := s1.toks) hk
      exact ⟨s1.heap.objs.size + 1, [s1.heap.objs.size + 1, s1.heap.objs.size], _, _, H1, rfl, I2, turn_enum a (s1.heap.objs.size + 1) s1.heap.objs.size, ⟨⟨.none, he⟩, hit, Nat.succ_ne_self _⟩, fresh2, q⟩
    · obtain ⟨its, rv, p', _⟩ := I1.tuple hq
      obtain ⟨o1, ho1, _⟩ := id p'
      have hlt := Heap.lt_size ho1
      refine call_enumerate_tuple (show s1.heap.IsTuple a its.toArray from p') fun h' he hit hsz hk => wpAny_pyIter_enum he ?_
      have I2 : Inv X pins σ H1 { s1 with heap := h' } := I1.kept (t' := s1.toks) hk
      exact ⟨s1.heap.objs.size + 1, [s1.heap.objs.size + 1, s1.heap.objs.size], _, _, H1, rfl, I2, turn_enumT a (s1.heap.objs.size + 1) s1.heap.objs.size (Nat.ne_of_lt hlt) (Nat.ne_of_lt (Nat.lt_succ_of_lt hlt)), ⟨⟨.none, he⟩, hit, Nat.succ_ne_self _⟩, fresh2, q⟩
end Ez

set_option Elab.async false
set_option linter.all false
set_option maxRecDepth 100000
set_option maxHeartbeats 1000000
/-! Mz: zip(t, l) of a tuple and a list walked. -/
namespace Mz
open PySem PySem.Spec PyProof.Rows L2
/-- the tuple at a (n of them) and the list at b (k of them), the items in new pairs -/
def ItzM (K : PySem.W.Frag) (a b : Addr) (n k : Nat) : It :=
  ⟨fun i H => ∃ (xs ys : List V) (x y : V), SqT K H a xs ∧ SqL K H b ys ∧ xs.length = n ∧ ys.length = k ∧ xs[i]? = some x ∧ ys[i]? = some y,
    fun i H v H' => ∃ T x y, v = .ref T ∧ H T = none ∧ H' = upd H T (.tup [x, y]) ∧ (∀ xs, SqT K H a xs → xs[i]? = some x) ∧ ∀ ys, SqL K H b ys → ys[i]? = some y,
    fun i H => ∃ xs ys : List V, SqT K H a xs ∧ SqL K H b ys ∧ xs.length = n ∧ ys.length = k ∧ (n ≤ i ∨ k ≤ i)⟩
theorem sep_of {z TI TO i1 i2 a b : Addr} (D : ZipApart z TI TO i1 i2 a b) : ZipSep2 z TI TO i1 i2 [i1, a] [i2, b] where
  TIz := D.TIz
  TOz := D.TOz
  TITO := D.TITO
  TIi1 := D.TIi1
  mem1 := by simp
  zf1 := by simp [Ne.symm D.i1z, Ne.symm D.l1z]
  Tf1 := by simp [D.TOi1, Ne.symm D.l1TO]
  TIi2 := D.TIi2
  mem2 := by simp
  zf2 := by simp [Ne.symm D.i2z, Ne.symm D.l2z]
  Tf2 := by simp [D.TOi2, Ne.symm D.l2TO]
  sep1_2 := by simp [D.i12, Ne.symm D.l2i1]
  sep2_1 := by simp [Ne.symm D.i12, Ne.symm D.l1i2]
theorem turn_zipM {P : Program} {w : World} {K : PySem.W.Frag} {elts : List Expr} {kk n k : Nat} {tpos : Pos} {a b z TI TO i1 i2 : Addr} (D : ZipApart z TI TO i1 i2 a b) :
    Turn P w K (.Tuple elts kk tpos) (ItzM K a b n k) [z, TI, TO, i1, i2] z (fun i h => IsZip h z TI TO .none ∧ IsPair h TI (.ref i1) (.ref i2) ∧ (∃ x y, IsPair h TO x y) ∧ h.IsTupleIter i1 a i ∧ h.IsListIter i2 b i ∧ i ≤ n ∧ i ≤ k) where
  mem := by simp
  obj := fun i h st c hc => by
    obtain ⟨hz, hTI, ⟨x, y, hTO⟩, ⟨o1, e1, _, d1⟩, ⟨o2, e2, _, d2⟩, _⟩ := st
    have e' : c = z ∨ c = TI ∨ c = TO ∨ c = i1 ∨ c = i2 := by simpa using hc
    rcases e' with q | q | q | q | q
    · rw [q]; exact ⟨_, hz, fun v q => nomatch q⟩
    · rw [q]; exact ⟨_, hTI, fun v q => nomatch q⟩
    · rw [q]; exact ⟨_, hTO, fun v q => nomatch q⟩
    · rw [q]; exact ⟨o1, e1, fun v q => by rw [d1] at q; cases q⟩
    · rw [q]; exact ⟨o2, e2, fun v q => by rw [d2] at q; cases q⟩
  keep := fun i h h' st k => by
    obtain ⟨hz, hTI, ⟨x, y, hTO⟩, h1, h2, l1, l2⟩ := st
    exact ⟨k z (by simp) _ hz, k TI (by simp) _ hTI, ⟨x, y, k TO (by simp) _ hTO⟩, h1.at fun o q => k i1 (by simp) o q, h2.at fun o q => k i2 (by simp) o q, l1, l2⟩
  item := by
    intro X hP hw hK hc i pins s σ H E I hf st hg
    subst hP hw hK
    obtain ⟨hz, hTI, ⟨x0, y0, hTO⟩, h1, h2, _, _⟩ := st
    obtain ⟨xs, ys, x, y, hqx, hqy, ln, lk, hx, hy⟩ := hg
    obtain ⟨its, rv, p, _⟩ := I.tuple hqx
    obtain ⟨its2, rv2, p2, _⟩ := I.list hqy
    obtain ⟨u, hu, ru⟩ := rv.get hx
    obtain ⟨u2, hu2, ru2⟩ := rv2.get hy
    have l1 := rv.length
    have l2 := rv2.length
    have hzl : z < s.heap.objs.size := Heap.lt_size hz
    obtain ⟨hn, _⟩ := List.getElem?_eq_some_iff.mp hx
    obtain ⟨hk', _⟩ := List.getElem?_eq_some_iff.mp hy
    have D1 := Draws.tuple (prog := X.prog) (w := X.w) (A := X.A.in1) (I.ok.hd hc) i1 a D.l1i1 its.toArray
    have D2 := Draws.list (prog := X.prog) (w := X.w) (A := X.A.in1) (I.ok.hd hc) i2 b D.l2i2 its2.toArray
    refine wpAny_pyNext_zipD2_item (sep_of D) D1 D2 hz hTI hTO ⟨h1, p⟩ ⟨h2, p2.isList⟩ (by simp; omega) (by simp; omega) fun v1 v2 h' tk e1 e2 z' TO' h1' h2' hT hsz hk => ?_
    have ev1 : v1 = u := by
      rw [show its.toArray[i]? = its[i]? by simp, hu] at e1
      exact (Option.some.inj e1).symm
    have ev2 : v2 = u2 := by
      rw [show its2.toArray[i]? = its2[i]? by simp, hu2] at e2
      exact (Option.some.inj e2).symm
    subst ev1 ev2
    refine ⟨_, rfl, wpAny_letOwnedTupleGo_zip (s := { s with heap := h', toks := tk }) z' fun h'' z'' sb => ?_⟩
    have hT2 : h''.get? s.heap.objs.size = some { cls := .type "tuple", data := .seq #[v1, v2] } := (sb.2 _ (Nat.ne_of_gt hzl)).trans hT
    have new : ObjOk X.prog X.w (upd H s.heap.objs.size (.tup [x, y])) h'' s.heap.objs.size (.tup [x, y]) :=
      ⟨by show 2 ≤ sizeLine; decide, [v1, v2], .cons ru (.cons ru2 .nil), ⟨_, hT2, rfl, _, rfl⟩⟩
    have I1 : Inv X pins σ (upd H s.heap.objs.size (.tup [x, y])) { s with heap := h'', toks := tk } :=
      I.turnedNew (ch := [z, TI, TO, i1, i2]) (fun c o hb q => (sb.2 c (fun q' => hb (by simp [q']))).trans (hk c o (fun q' => hb (by simp [q'])) (fun q' => hb (by simp [q'])) (fun q' => hb (by simp [q'])) (fun q' => hb (by simp [q'])) q)) hf (Nat.le_refl _) new
    refine ⟨.ref s.heap.objs.size, _, I1, rfl, ⟨_, x, y, rfl, I.hok.fresh (Nat.le_refl _), rfl, fun l hl => by rw [I.tuple_inj hl hqx]; exact hx, fun l hl => by rw [I.list_inj hl hqy]; exact hy⟩, ⟨z'', ?_, ⟨v1, v2, ?_⟩, ?_, ?_, by omega, by omega⟩, fun c hcm => ?_⟩
    · exact (sb.2 _ D.TIz).trans (hk _ _ D.TIz D.TITO D.TIi1 D.TIi2 hTI)
    · exact (sb.2 _ D.TOz).trans TO'
    · exact h1'.1.at fun o q => (sb.2 _ D.i1z).trans q
    · exact h2'.1.at fun o q => (sb.2 _ D.i2z).trans q
    · have hlt : c < s.heap.objs.size := by
        have e' : c = z ∨ c = TI ∨ c = TO ∨ c = i1 ∨ c = i2 := by simpa using hcm
        rcases e' with q | q | q | q | q
        · rw [q]; exact hzl
        · rw [q]; exact Heap.lt_size hTI
        · rw [q]; exact Heap.lt_size hTO
        · rw [q]; obtain ⟨_, e1, _⟩ := h1; exact Heap.lt_size e1
        · rw [q]; obtain ⟨_, e2, _⟩ := h2; exact Heap.lt_size e2
      rw [upd_ne (Nat.ne_of_lt hlt)]
      exact (hf c hcm).1
  done := by
    intro X hP hw hK hc i pins s σ H E I hf st hg
    subst hP hw hK
    obtain ⟨hz, hTI, ⟨x0, y0, hTO⟩, h1, h2, g1, g2⟩ := st
    obtain ⟨xs, ys, hqx, hqy, ln, lk, hend⟩ := hg
    obtain ⟨its, rv, p, _⟩ := I.tuple hqx
    obtain ⟨its2, rv2, p2, _⟩ := I.list hqy
    have l1 := rv.length
    have l2 := rv2.length
    have D1 := Draws.tuple (prog := X.prog) (w := X.w) (A := X.A.in1) (I.ok.hd hc) i1 a D.l1i1 its.toArray
    have D2 := Draws.list (prog := X.prog) (w := X.w) (A := X.A.in1) (I.ok.hd hc) i2 b D.l2i2 its2.toArray
    exact wpAny_pyNext_zipD2_end (sep_of D) D1 D2 hz hTI hTO ⟨h1, p⟩ ⟨h2, p2.isList⟩ (by simp; omega) (by simp; omega) (by simp; omega) fun h' tk hk => ⟨rfl, I.turnedL (t' := tk) (ch := [z, TI, TO, i1, i2]) (fun c o hb q =>
      hk c o (fun q' => hb (by simp [q'])) (fun q' => hb (by simp [q'])) (fun q' => hb (by simp [q'])) (fun q' => hb (by simp [q'])) q) hf⟩
  self := fun A i s Q E st h => wpAny_pyIter_zip st.1 h
def iZipM (K : PySem.W.Frag) (ta : TA) : TI := fun σ H R => ta σ H fun vs H1 => ∃ a b xs ys, vs = [.ref a, .ref b] ∧ SqT K H1 a xs ∧ SqL K H1 b ys ∧ R (ItzM K a b xs.length ys.length) H1
theorem pi_zipM {X : Cx} {e e2 : Expr} {ta : TA} {p pos tpos : Pos} {elts : List Expr} {kk : Nat} (hg : Gl X "zip") (hm : X.mg "zip" = none) (ha : PA X [e, e2] ta)
    (hs : starEach [e, e2] X.env = (false, eval e X.env) :: starEach [e2] X.env) (hpl : (backTo pos (starEach [e2] X.env)).any (·.1) = false) :
    PI X (.Tuple elts kk tpos) (.Call (.Name "zip" p) [e, e2] [] pos) (iZipM X.K ta) := by
  refine ⟨fun pins s σ H R I h => ?_⟩
  refine Call_ (ld_blt I hg hm PyProof.Rows.boot_zip (PyProof.Rows.callWith_type1 (thn (ha.run pos pins s σ H _ I h) fun us s1 ⟨vs, H1, I1, r1, q1⟩ => ?_) hs hpl))
  obtain ⟨a, b, xs, ys, ex, hqx, hqy, q⟩ := q1
  subst ex
  cases r1 with
  | cons r rr =>
    cases rr with
    | cons r' rr =>
      cases rr
      cases r
      cases r'
      have fresh5 : ∀ c, c ∈ [s1.heap.objs.size + 4, s1.heap.objs.size + 2, s1.heap.objs.size + 3, s1.heap.objs.size, s1.heap.objs.size + 1] → FpOk X pins H1 c := fun c hcm => by
        have e' : c = s1.heap.objs.size + 4 ∨ c = s1.heap.objs.size + 2 ∨ c = s1.heap.objs.size + 3 ∨ c = s1.heap.objs.size ∨ c = s1.heap.objs.size + 1 := by simpa using hcm
        have hle : s1.heap.objs.size ≤ c := by
          rcases e' with z | z | z | z | z
          · rw [z]; exact Nat.le_add_right _ _
          · rw [z]; exact Nat.le_add_right _ _
          · rw [z]; exact Nat.le_add_right _ _
          · rw [z]; exact Nat.le_refl _
          · rw [z]; exact Nat.le_add_right _ _
        exact I1.fpOk hle (I1.hok.fresh hle)
      obtain ⟨its, rv, p1, _⟩ := I1.tuple hqx
      obtain ⟨its2, rv2, p2, _⟩ := I1.list hqy
      obtain ⟨o1, ho1, _⟩ := id p1
      refine zip_begins2 (begins_tuple a its.toArray) (begins_list b its2.toArray) p1 p2.isList fun h' hz hTI hTO h1 h2 hsz hk => wpAny_pyIter_zip hz ?_
      have I2 : Inv X pins σ H1 { s1 with heap := h' } := I1.kept (t' := s1.toks) hk
      exact ⟨s1.heap.objs.size + 4, [s1.heap.objs.size + 4, s1.heap.objs.size + 2, s1.heap.objs.size + 3, s1.heap.objs.size, s1.heap.objs.size + 1], _, _, H1, rfl, I2, turn_zipM (PySem.W.ktu_apart s1.heap.objs.size a b (Heap.lt_size ho1) p2.lt), ⟨hz, hTI, ⟨_, _, hTO⟩, ⟨_, h1, rfl, rfl⟩, ⟨_, h2, rfl, rfl⟩, Nat.zero_le _, Nat.zero_le _⟩, fresh5, q⟩
end Mz

set_option Elab.async false
set_option linter.all false
/-! Ir: values D, the small language (E, C), its evaluation. -/
namespace Pv
open PySem

/-- pure values; fz: a list that is read alone (the script); ref: a list that is changed in place (a place of the store); fn: a def -/
inductive D where
  | non
  | bl (b : Bool)
  | int (i : Int)
  | str (s : Str)
  | tup (xs : List D)
  | lst (xs : List D)
  | fz (xs : List D)
  | ref (n : Nat)
  | fn (j : Nat)

abbrev Sto := List (List D)
abbrev Slot := Option (Bool × D)
abbrev Rho := List Slot

/-- targets -/
inductive Tg where
  | nm (i : Nat)
  | tp (ts : List Tg)

inductive Bi where
  | abs | len | all | any | tuple | list | sum | max2 | min2 | int | repr | isInt | isBool | isTuple | isStr
  deriving DecidableEq

inductive E where
  | cst (d : D)
  | var (i : Nat)
  | bor (i : Nat)
  | glb (j : Nat)
  | fnv (j : Nat)
  | bin (op : Operator) (a b : E)
  | neg (a : E)
  | not (a : E)
  | and (a b : E)
  | or (a b : E)
  | cmp (op : CmpOp) (a b : E)
  | chn (op op2 : CmpOp) (a b c : E)
  | ite (c a b : E)
  | tup (es : List E)
  | lst (es : List E)
  | box (es : List E)
  | star (e : E)
  | idx (a i : E)
  | slc (a : E) (lo hi : Option E)
  | rev (a : E)
  | call (f : Nat) (es : List E)
  | callk (q : Nat) (es ks : List E)
  | callv (f : E) (es : List E)
  | bi (b : Bi) (es : List E)
  | bits (a : E)
  | cmpr (own : List Nat) (tg : Tg) (it : E) (ifs : List E) (elt : E)
  | rng (es : List E)
  | zip (a b : E)
  | enu (a : E)
  /-- len({x: True for x in a}) -/
  | dlen (i : Nat) (a : E)
  /-- list(zip(a, b)), of two tuples -/
  | lzip (a b : E)

inductive C where
  | set (i : Nat) (e : E)
  | own (i : Nat) (e : E)
  | unp (tg : Tg) (e : E)
  | par (is : List Nat) (es : List E)
  | put (a i e : E)
  | aug (i : Nat) (op : Operator) (e : E)
  | exp (e : E)
  | app (i : Nat) (e : E)
  | ext (i : Nat) (e : E)
  | ins (i : Nat) (a b : E)
  | par2 (i : Nat) (a : Bool) (e : E) (j : Nat) (b : Bool) (f : E)
  | puto (i : Nat) (k e : E)
  | insr (i : Nat) (a b : E)
  | lnd (i : Nat) (f : Nat) (es : List E)
  | apop (i j : Nat) (e : E)
  | spop (tg : Tg) (j : Nat)
  | ite (c : E) (a b : List C)
  | for_ (tg : Tg) (it : E) (b : List C)
  | whl (c : E) (b : List C)
  | ret (e : E)
  | pas
  | brk
  | cnt
  | bad
  | frz (is : List Nat) (c : C)

structure Fn where
  name : Str
  N : List Str
  np : Nat
  body : List C
  /-- the def's own name, where it stands under another one -/
  own : Str := name

/-- a form of call with keywords: the def's number, how many by position, the names, for each parameter where its value stands -/
structure Kwf where
  f : Nat
  n : Nat
  ks : List Str
  perm : List Nat
structure Prg where
  fns : List Fn
  csts : List (Str × D)
  kws : List Kwf

/-! ### operations on values -/
mutual
def D.py : D → Option PyData
  | .non => some .none
  | .bl b => some (.bool b)
  | .int i => some (.int i)
  | .str s => some (.str s)
  | .tup xs => (pys xs).map .tuple
  | .lst xs => (pys xs).map .list
  | .fz _ => none
  | .ref _ => none
  | .fn _ => none
def pys : List D → Option (List PyData)
  | [] => some []
  | x :: xs => (D.py x).bind fun y => (pys xs).map fun ys => y :: ys
end
mutual
/-- no place of the store in it -/
def D.pure : D → Bool
  | .tup xs => pures xs
  | .lst xs => pures xs
  | .fz xs => pures xs
  | .ref _ => false
  | _ => true
def pures : List D → Bool
  | [] => true
  | x :: xs => D.pure x && pures xs
end

mutual
def eqD : D → D → Bool
  | .non, .non => true
  | .bl a, .bl b => a == b
  | .bl a, .int b => decide ((if a then 1 else 0) = b)
  | .int a, .bl b => decide (a = (if b then 1 else 0))
  | .int a, .int b => decide (a = b)
  | .str a, .str b => decide (a = b)
  | .tup xs, .tup ys => eqDs xs ys
  | .lst xs, .lst ys => eqDs xs ys
  | _, _ => false
def eqDs : List D → List D → Bool
  | [], [] => true
  | x :: xs, y :: ys => eqD x y && eqDs xs ys
  | _, _ => false
end

/-- none, bools, ints, texts -/
def D.flat : D → Bool
  | .non => true
  | .bl _ => true
  | .int _ => true
  | .str _ => true
  | _ => false

def szMul (i j : Int) : Bool := decide (i.natAbs.log2 + j.natAbs.log2 < 1000000)
def szDiv (j : Int) : Bool := decide (j ≠ 0) && decide (j.natAbs.log2 < 9000)
def szPow (i j : Int) : Bool := decide (0 ≤ j) && decide (j ≤ 1000) && decide (i.natAbs.log2 < 100000)
def szShl (i j : Int) : Bool := decide (0 ≤ j) && decide (j ≤ 1000000) && decide (i.natAbs.log2 < 1000000)

def binD : Operator → D → D → Option D
  | .Add, .int i, .int j => some (.int (i + j))
  | .Sub, .int i, .int j => some (.int (i - j))
  | .Mult, .int i, .int j => if szMul i j then some (.int (i * j)) else none
  | .FloorDiv, .int i, .int j => if szDiv j then some (.int (i.fdiv j)) else none
  | .Mod, .int i, .int j => if j = 0 then none else some (.int (i.fmod j))
  | .Pow, .int i, .int j => if szPow i j then some (.int (i ^ j.toNat)) else none
  | .LShift, .int i, .int j => if szShl i j then some (.int (i * 2 ^ j.toNat)) else none
  | .Add, .tup xs, .tup ys => if xs.length + ys.length ≤ 100000 then some (.tup (xs ++ ys)) else none
  | .Add, .lst xs, .lst ys => if xs.length + ys.length ≤ 100000 then some (.lst (xs ++ ys)) else none
  | .Add, .str xs, .str ys => if xs.length + ys.length ≤ 100000 then some (.str (xs ++ ys)) else none
  | _, _, _ => none

def isNon : D → Bool
  | .non => true
  | _ => false
def inD (x : D) (ys : List D) : Bool := ys.any fun y => eqD y x
def okPy (d : D) : Bool := match d.py with
  | some p => SeqAt.shaped p
  | none => false
def oneOf (x : Str) : Option Nat := match x.cps.toList with
  | [c] => some c
  | _ => none
def cmpD : CmpOp → D → D → Option Bool
  | .Lt, .int i, .int j => some (decide (i < j))
  | .LtE, .int i, .int j => some (decide (i ≤ j))
  | .Gt, .int i, .int j => some (decide (j < i))
  | .GtE, .int i, .int j => some (decide (j ≤ i))
  | .Eq, .int i, .int j => some (decide (i = j))
  | .NotEq, .int i, .int j => some (!decide (i = j))
  | .Eq, .str i, .str j => some (decide (i = j))
  | .NotEq, .str i, .str j => some (!decide (i = j))
  | .Eq, x, y => if okPy x && okPy y then some (eqD x y) else none
  | .NotEq, x, y => if okPy x && okPy y then some (!eqD x y) else none
  | .Is, x, .non => some (isNon x)
  | .IsNot, x, .non => some (!isNon x)
  | .In, x, .tup ys => if x.flat && ys.all D.flat then some (inD x ys) else if okPy x && okPy (.tup ys) then some (inD x ys) else none
  | .In, x, .lst ys => if x.flat && ys.all D.flat then some (inD x ys) else if okPy x && okPy (.lst ys) then some (inD x ys) else none
  | .NotIn, x, .tup ys => if x.flat && ys.all D.flat then some (!inD x ys) else if okPy x && okPy (.tup ys) then some (!inD x ys) else none
  | .NotIn, x, .lst ys => if x.flat && ys.all D.flat then some (!inD x ys) else if okPy x && okPy (.lst ys) then some (!inD x ys) else none
  | .In, .str x, .str z => (oneOf x).map fun c => decide (c ∈ z.cps.toList)
  | _, _, _ => none

def deB (S : Sto) : D → D
  | .ref n => match S[n]? with
    | some ds => .lst ds
    | none => .ref n
  | d => d

def wk : D → D
  | .fz xs => .lst xs
  | d => d

def boolsOf : List D → Option (List Bool)
  | [] => some []
  | .bl b :: r => (boolsOf r).map fun bs => b :: bs
  | _ :: _ => none
def intsOf : List D → Option (List Int)
  | [] => some []
  | .int b :: r => (intsOf r).map fun bs => b :: bs
  | _ :: _ => none

def isD : Bi → D → Bool
  | .isInt, .int _ => true
  | .isInt, .bl _ => true
  | .isBool, .bl _ => true
  | .isTuple, .tup _ => true
  | .isStr, .str _ => true
  | _, _ => false

def tyOk : D → Bool
  | .fn _ => false
  | .ref _ => false
  | .fz _ => false
  | _ => true
def biD : Bi → List D → Option D
  | .abs, [.int i] => some (.int (if i < 0 then -i else i))
  | .len, [.lst xs] => some (.int xs.length)
  | .len, [.tup xs] => some (.int xs.length)
  | .len, [.str x] => if x.length ≤ 100000 then some (.int x.length) else none
  | .all, [.lst xs] => (boolsOf xs).map fun bs => .bl (bs.all id)
  | .any, [.lst xs] => (boolsOf xs).map fun bs => .bl (bs.any id)
  | .tuple, [.lst xs] => some (.tup xs)
  | .tuple, [.tup xs] => some (.tup xs)
  | .list, [.lst xs] => some (.lst xs)
  | .list, [.tup xs] => some (.lst xs)
  | .sum, [.lst xs] => (intsOf xs).map fun ns => .int ns.sum
  | .max2, [.int i, .int j] => some (.int (if j > i then j else i))
  | .min2, [.int i, .int j] => some (.int (if j < i then j else i))
  | .int, [.int i] => some (.int i)
  | .int, [.bl b] => some (.int (if b then 1 else 0))
  | .repr, [x] => (x.py).bind fun p => if p.showable && decide (p.shown.length ≤ 100000) && decide (p.depth ≤ 40) then some (.str p.shown) else none
  | .isInt, [x] => if tyOk x then some (.bl (isD .isInt x)) else none
  | .isBool, [x] => if tyOk x then some (.bl (isD .isBool x)) else none
  | .isTuple, [x] => if tyOk x then some (.bl (isD .isTuple x)) else none
  | .isStr, [x] => if tyOk x then some (.bl (isD .isStr x)) else none
  | _, _ => none

def idxD : D → D → Option D
  | .lst xs, .int i => L2.atI xs i
  | .tup xs, .int i => L2.atI xs i
  | .str x, .int i => if x.length ≤ 100000 then (L2.atI x.cps.toList i).map fun c => .str ⟨#[c]⟩ else none
  | _, _ => none
def cutD {α : Type} (xs : List α) (lo hi : Option Int) : List α := (xs.drop (HT.sIx xs.length 0 lo)).take (HT.sIx xs.length xs.length hi - HT.sIx xs.length 0 lo)
def slcD : D → Option Int → Option Int → Option D
  | .lst xs, lo, hi => some (.lst (cutD xs lo hi))
  | .tup xs, lo, hi => some (.tup (cutD xs lo hi))
  | _, _, _ => none
def revD : D → Option D
  | .lst xs => some (.lst xs.reverse)
  | _ => none
def itemsD : D → Option (List D)
  | .lst xs => some xs
  | .tup xs => some xs
  | _ => none
def rangeOk (i j : Int) : Bool := decide (-(2 ^ 62) ≤ i) && decide (i < 2 ^ 62) && decide (-(2 ^ 62) ≤ j) && decide (j < 2 ^ 62) && decide (j - i < 100000)
def rangeL (lo : Int) (n : Nat) : List D := (List.range n).map fun (k : Nat) => .int (lo + k)
def rngD : List D → Option (List D)
  | [.int j] => if rangeOk 0 j then some (rangeL 0 j.toNat) else none
  | [.int i, .int j] => if rangeOk i j then some (rangeL i (j - i).toNat) else none
  | _ => none
def zipL : List D → List D → List D
  | x :: xs, y :: ys => .tup [x, y] :: zipL xs ys
  | _, _ => []
def enuL : Nat → List D → List D
  | _, [] => []
  | n, x :: xs => .tup [.int n, x] :: enuL (n + 1) xs

/-! ### keys -/
mutual
def kdD : D → Option Kd
  | .int i => some (.k (.inl i))
  | .str s => some (.k (.inr s))
  | .tup xs => (kdDs xs).map .t
  | _ => none
def kdDs : List D → Option (List Kd)
  | [] => some []
  | x :: xs => (kdD x).bind fun y => (kdDs xs).map fun ys => y :: ys
end
def keyOk (ks : List Kd) : Bool := decide (dps ks ≤ 6) && (Kd.t ks).pd.canLay0
def keyD : D → Option (List Kd)
  | .tup xs => (kdDs xs).bind fun ks => if keyOk ks = true then some ks else none
  | _ => none
def keysD : List D → Option (List (List Kd))
  | [] => some []
  | x :: xs => (keyD x).bind fun k => (keysD xs).map fun ks => k :: ks
noncomputable def addK (ks : List (List Kd)) (k : List Kd) : List (List Kd) := if k ∈ ks then ks else ks ++ [k]
/-- the unlike ones, as they first stand -/
noncomputable def distK (ks : List (List Kd)) : List (List Kd) := ks.foldl addK []
noncomputable def dlenD (S : Sto) (xs : List D) : Option (D × Sto) := if xs.length < 100000 then (keysD xs).map fun ks => (.int (distK ks).length, S) else none

/-! ### targets -/
mutual
def Tg.slots : Tg → List Nat
  | .nm i => [i]
  | .tp ts => slotss ts
def slotss : List Tg → List Nat
  | [] => []
  | t :: ts => t.slots ++ slotss ts
end
mutual
def asg : Tg → D → Rho → Option Rho
  | .nm i, d, r => if i < r.length then some (r.set i (some (false, d))) else none
  | .tp ts, .tup ds, r => asgs ts ds r
  | .tp ts, .lst ds, r => asgs ts ds r
  | .tp _, _, _ => none
def asgs : List Tg → List D → Rho → Option Rho
  | [], [], r => some r
  | t :: ts, d :: ds, r => (asg t d r).bind fun r1 => asgs ts ds r1
  | _, _, _ => none
end
def wipeR (r : Rho) : List Nat → Rho
  | [] => r
  | v :: vs => (wipeR r vs).set v none

def pick {α : Type} : List Nat → List α → Option (List α)
  | [], _ => some []
  | k :: ks, xs => (xs[k]?).bind fun x => (pick ks xs).map fun r => x :: r

/-! ### expressions -/
/-- the turns of a comprehension -/
def compL (f : D → Sto → Option (Option D × Sto)) : List D → Sto → Option (List D × Sto)
  | [], S => some ([], S)
  | x :: xs, S => (f x S).bind fun p => (compL f xs p.2).map fun q => (match p.1 with | some y => y :: q.1 | none => q.1, q.2)

noncomputable section
variable (P : Prg) (cf : Nat → List D → Sto → Option (D × Sto))
mutual
def evE : E → Rho → Sto → Option (D × Sto)
  | .cst d, _, S => some (d, S)
  | .var i, r, S => match r[i]? with
    | some (some (false, d)) => some (d, S)
    | _ => none
  | .bor i, r, S => match r[i]? with
    | some (some (_, d)) => some (d, S)
    | _ => none
  | .glb j, _, S => (P.csts[j]?).map fun p => (p.2, S)
  | .fnv j, _, S => some (.fn j, S)
  | .bin op a b, r, S => (evE a r S).bind fun p => (evE b r p.2).bind fun q => (binD op (deB q.2 p.1) (deB q.2 q.1)).map fun d => (d, q.2)
  | .neg a, r, S => (evE a r S).bind fun p => match p.1 with
    | .int i => some (.int (-i), p.2)
    | _ => none
  | .not a, r, S => (evE a r S).bind fun p => match p.1 with
    | .bl b => some (.bl (!b), p.2)
    | _ => none
  | .and a b, r, S => (evE a r S).bind fun p => match p.1 with
    | .bl true => evE b r p.2
    | .bl false => some (.bl false, p.2)
    | _ => none
  | .or a b, r, S => (evE a r S).bind fun p => match p.1 with
    | .bl true => some (.bl true, p.2)
    | .bl false => evE b r p.2
    | _ => none
  | .cmp op a b, r, S => (evE a r S).bind fun p => (evE b r p.2).bind fun q => (cmpD op (deB q.2 p.1) (deB q.2 q.1)).map fun d => (.bl d, q.2)
  | .chn op op2 a b c, r, S => (evE a r S).bind fun p => (evE b r p.2).bind fun q => (cmpD op p.1 q.1).bind fun d =>
      if d then (evE c r q.2).bind fun q2 => (cmpD op2 q.1 q2.1).map fun d2 => (.bl d2, q2.2) else some (.bl false, q.2)
  | .ite c a b, r, S => (evE c r S).bind fun p => match p.1 with
    | .bl true => evE a r p.2
    | .bl false => evE b r p.2
    | _ => none
  | .tup es, r, S => (evEs es r S).bind fun p => if p.1.length ≤ 100000 then some (.tup p.1, p.2) else none
  | .lst es, r, S => (evEs es r S).bind fun p => if p.1.length ≤ 100000 then some (.lst p.1, p.2) else none
  | .box es, r, S => (evEs es r S).bind fun p => if pures p.1 && decide (p.1.length ≤ 100000) then some (.ref p.2.length, p.2 ++ [p.1]) else none
  | .star _, _, _ => none
  | .idx a i, r, S => (evE a r S).bind fun p => (evE i r p.2).bind fun q => (idxD (wk (deB q.2 p.1)) q.1).map fun d => (d, q.2)
  | .slc a lo hi, r, S => (evE a r S).bind fun p => (evO lo r p.2).bind fun q => (evO hi r q.2).bind fun q2 => (slcD (wk (deB q2.2 p.1)) q.1 q2.1).map fun d => (d, q2.2)
  | .rev a, r, S => (evE a r S).bind fun p => (revD (deB p.2 p.1)).map fun d => (d, p.2)
  | .call f es, r, S => (evEs es r S).bind fun p => cf f p.1 p.2
  | .callk q es ks, r, S => (P.kws[q]?).bind fun w => (evEs es r S).bind fun p => (evEs ks r p.2).bind fun p2 => if p.1.length = w.n ∧ p2.1.length = w.ks.length then (pick w.perm (p.1 ++ p2.1)).bind fun ds => cf w.f ds p2.2 else none
  | .callv f es, r, S => (evE f r S).bind fun p => match p.1 with
    | .fn j => (evEs es r p.2).bind fun q => cf j q.1 q.2
    | _ => none
  | .bi b es, r, S => (evEs es r S).bind fun p => (biD b (p.1.map fun d => wk (deB p.2 d))).map fun d => (d, p.2)
  | .bits a, r, S => (evE a r S).bind fun p => match p.1 with
    | .int i => some (.int (Builtin.Int.intBits i : Nat), p.2)
    | _ => none
  | .cmpr own tg it ifs elt, r, S => (evE it r S).bind fun p => (itemsD (wk p.1)).bind fun xs =>
      if xs.length < 100000 then
        (compL (fun x S1 => (asg tg x (wipeR r own)).bind fun r1 => (evIfs ifs r1 S1).bind fun b => if b.1 then (evE elt r1 b.2).map fun y => (some y.1, y.2) else some (none, b.2)) xs p.2).map fun q => (.lst q.1, q.2)
      else none
  | .rng es, r, S => (evEs es r S).bind fun p => (rngD p.1).map fun xs => (.lst xs, p.2)
  | .zip a b, r, S => (evE a r S).bind fun p => (evE b r p.2).bind fun q => match wk p.1, wk q.1 with
    | .lst xs, .lst ys => some (.lst (zipL xs ys), q.2)
    | .tup xs, .tup ys => some (.lst (zipL xs ys), q.2)
    | .tup xs, .lst ys => some (.lst (zipL xs ys), q.2)
    | _, _ => none
  | .enu a, r, S => (evE a r S).bind fun p => match wk p.1 with
    | .lst xs => some (.lst (enuL 0 xs), p.2)
    | .tup xs => some (.lst (enuL 0 xs), p.2)
    | _ => none
  | .dlen i a, r, S => (evE a r S).bind fun p => if i < r.length then (itemsD (wk p.1)).bind fun xs => dlenD p.2 xs else none
  | .lzip a b, r, S => (evE a r S).bind fun p => (evE b r p.2).bind fun q => match p.1, q.1 with
    | .tup xs, .tup ys => some (.lst (zipL xs ys), q.2)
    | _, _ => none
def evEs : List E → Rho → Sto → Option (List D × Sto)
  | [], _, S => some ([], S)
  | .star e :: es, r, S => (evE e r S).bind fun p => (itemsD (wk (deB p.2 p.1))).bind fun xs => (evEs es r p.2).map fun q => (xs ++ q.1, q.2)
  | e :: es, r, S => (evE e r S).bind fun p => (evEs es r p.2).map fun q => (p.1 :: q.1, q.2)
def evIfs : List E → Rho → Sto → Option (Bool × Sto)
  | [], _, S => some (true, S)
  | e :: es, r, S => (evE e r S).bind fun p => match p.1 with
    | .bl true => evIfs es r p.2
    | .bl false => some (false, p.2)
    | _ => none
def evO : Option E → Rho → Sto → Option (Option Int × Sto)
  | none, _, S => some (none, S)
  | some e, r, S => (evE e r S).bind fun p => match p.1 with
    | .int i => some (some i, p.2)
    | _ => none
end

/-! ### statements -/
inductive Out where
  | nx (r : Rho)
  | rt (d : D)
  | bk (r : Rho)
  | ct (r : Rho)

def whl (c : Rho → Sto → Option (D × Sto)) (b : Rho → Sto → Option (Out × Sto)) : Nat → Rho → Sto → Option (Out × Sto)
  | 0, _, _ => none
  | n + 1, r, S => (c r S).bind fun p => match p.1 with
    | .bl true => (b r p.2).bind fun q => match q.1 with
      | .nx r1 => whl c b n r1 q.2
      | .ct r1 => whl c b n r1 q.2
      | .bk r1 => some (.nx r1, q.2)
      | .rt d => some (.rt d, q.2)
    | .bl false => some (.nx r, p.2)
    | _ => none
def forL (tg : Tg) (b : Rho → Sto → Option (Out × Sto)) : List D → Rho → Sto → Option (Out × Sto)
  | [], r, S => some (.nx r, S)
  | x :: xs, r, S => (asg tg x r).bind fun r0 => (b r0 S).bind fun q => match q.1 with
      | .nx r1 => forL tg b xs r1 q.2
      | .ct r1 => forL tg b xs r1 q.2
      | .bk r1 => some (.nx r1, q.2)
      | .rt d => some (.rt d, q.2)

/-- the most turns of a while: a number that computing never unfolds -/
theorem most_ex : ∃ n : Nat, n = 2 ^ 2000000 := ⟨_, rfl⟩
noncomputable def most : Nat := Classical.choose most_ex
theorem most_eq : most = 2 ^ 2000000 := Classical.choose_spec most_ex

def okOwn : Bool → D → Bool
  | false, _ => true
  | true, .lst _ => true
  | true, _ => false
def frzR (r : Rho) : List Nat → Rho
  | [] => r
  | i :: is => match (frzR r is)[i]? with
    | some (some (_, d)) => (frzR r is).set i (some (false, d))
    | _ => frzR r is
def setAll (r : Rho) : List Nat → List D → Option Rho
  | [], [] => some r
  | i :: is, d :: ds => if i < r.length then setAll (r.set i (some (false, d))) is ds else none
  | _, _ => none
mutual
def exS : C → Rho → Sto → Option (Out × Sto)
  | .set i e, r, S => (evE P cf e r S).bind fun p => if i < r.length then some (.nx (r.set i (some (false, p.1))), p.2) else none
  | .own i e, r, S => (evE P cf e r S).bind fun p => match p.1 with
    | .lst ds => if i < r.length then some (.nx (r.set i (some (true, .lst ds))), p.2) else none
    | _ => none
  | .unp tg e, r, S => (evE P cf e r S).bind fun p => (asg tg p.1 r).map fun r1 => (.nx r1, p.2)
  | .par is es, r, S => (evEs P cf es r S).bind fun p => (setAll r is p.1).map fun r1 => (.nx r1, p.2)
  | .put a i e, r, S => (evE P cf e r S).bind fun p => (evE P cf a r p.2).bind fun q => (evE P cf i r q.2).bind fun q2 => match q.1, q2.1 with
    | .ref n, .int k => (q2.2[n]?).bind fun ds => (L2.ixN ds.length k).bind fun j => if p.1.pure then some (.nx r, q2.2.set n (ds.set j p.1)) else none
    | _, _ => none
  | .aug i op e, r, S => match r[i]? with
    | some (some (false, d)) => (evE P cf e r S).bind fun p => match op, d, p.1 with
      | .Add, .int a, .int b => some (.nx (r.set i (some (false, .int (a + b)))), p.2)
      | .Sub, .int a, .int b => some (.nx (r.set i (some (false, .int (a - b)))), p.2)
      | _, _, _ => none
    | _ => none
  | .exp e, r, S => (evE P cf e r S).map fun p => (.nx r, p.2)
  | .app i e, r, S => (evE P cf e r S).bind fun p => match r[i]? with
    | some (some (true, .lst ds)) => if ds.length < 100000 then some (.nx (r.set i (some (true, .lst (ds ++ [p.1])))), p.2) else none
    | _ => none
  | .ext i e, r, S => (evE P cf e r S).bind fun p => match r[i]?, p.1 with
    | some (some (true, .lst ds)), .lst xs => if ds.length + xs.length < 100000 then some (.nx (r.set i (some (true, .lst (ds ++ xs)))), p.2) else none
    | _, _ => none
  | .ins i a b, r, S => (evE P cf a r S).bind fun p => (evE P cf b r p.2).bind fun q => match r[i]?, p.1 with
    | some (some (true, .lst ds)), .int k => if ds.length < 100000 ∧ 0 ≤ k ∧ k ≤ ds.length then some (.nx (r.set i (some (true, .lst (ds.take k.toNat ++ q.1 :: ds.drop k.toNat)))), q.2) else none
    | _, _ => none
  | .par2 i a e j b f, r, S => (evE P cf e r S).bind fun p => (evE P cf f r p.2).bind fun q => if okOwn a p.1 && okOwn b q.1 && decide (i < r.length ∧ j < r.length ∧ i ≠ j) then some (.nx ((r.set i (some (a, p.1))).set j (some (b, q.1))), q.2) else none
  | .puto i k e, r, S => (evE P cf e r S).bind fun p => (evE P cf k r p.2).bind fun q => match r[i]?, q.1 with
    | some (some (true, .lst ds)), .int t => (L2.ixN ds.length t).map fun j => (.nx (r.set i (some (true, .lst (ds.set j p.1)))), q.2)
    | _, _ => none
  | .insr i a b, r, S => (evE P cf a r S).bind fun p => (evE P cf b r p.2).bind fun q => match r[i]?, p.1 with
    | some (some (false, .ref n)), .int k => (q.2[n]?).bind fun ds => if ds.length < 100000 ∧ 0 ≤ k ∧ k ≤ ds.length ∧ q.1.pure = true then some (.nx r, q.2.set n (ds.take k.toNat ++ q.1 :: ds.drop k.toNat)) else none
    | _, _ => none
  | .lnd i f es, r, S => (evEs P cf es r S).bind fun p => match r[i]? with
    | some (some (true, .lst ds)) => if pures ds then (cf f (.ref p.2.length :: p.1) (p.2 ++ [ds])).bind fun q => (q.2[p.2.length]?).bind fun ys => if q.2.length = p.2.length + 1 then some (.nx (r.set i (some (true, .lst ys))), q.2.take p.2.length) else none else none
    | _ => none
  | .apop i j e, r, S => (evE P cf e r S).bind fun p => match r[i]?, r[j]?, p.1 with
    | some (some (true, .lst ds)), some (some (true, .lst ys)), .int k => (L2.ixN ys.length k).bind fun t => (ys[t]?).bind fun d => if i ≠ j ∧ ds.length < 100000 ∧ ys.length < 100000 then some (.nx ((r.set j (some (true, .lst (ys.eraseIdx t)))).set i (some (true, .lst (ds ++ [d])))), p.2) else none
    | _, _, _ => none
  | .spop tg j, r, S => match r[j]? with
    | some (some (true, .lst ys)) => (ys[ys.length - 1]?).bind fun d => (asg tg d (r.set j (some (true, .lst ys.dropLast)))).map fun r1 => (.nx r1, S)
    | _ => none
  | .ite c a b, r, S => (evE P cf c r S).bind fun p => match p.1 with
    | .bl true => exB a r p.2
    | .bl false => exB b r p.2
    | _ => none
  | .for_ tg it b, r, S => (evE P cf it r S).bind fun p => (itemsD (wk p.1)).bind fun xs => forL tg (fun r1 S1 => exB b r1 S1) xs r p.2
  | .whl c b, r, S => whl (fun r1 S1 => evE P cf c r1 S1) (fun r1 S1 => exB b r1 S1) most r S
  | .ret e, r, S => (evE P cf e r S).map fun p => (.rt p.1, p.2)
  | .pas, r, S => some (.nx r, S)
  | .brk, r, S => some (.bk r, S)
  | .cnt, r, S => some (.ct r, S)
  | .bad, _, _ => none
  | .frz is c, r, S => exS c (frzR r is) S
def exB : List C → Rho → Sto → Option (Out × Sto)
  | [], r, S => some (.nx r, S)
  | c :: cs, r, S => (exS c r S).bind fun q => match q.1 with
      | .nx r1 => exB cs r1 q.2
      | .ct r1 => some (.ct r1, q.2)
      | .bk r1 => some (.bk r1, q.2)
      | .rt d => some (.rt d, q.2)
end
end

def endF (n : Nat) : Option (Out × Sto) → Option (D × Sto)
  | some (.rt d, S) => if d.pure then some (d, S.take n) else match d with
    | .ref m => if m < S.length then some (.ref m, S) else none
    | _ => none
  | some (.nx _, S) => some (.non, S.take n)
  | _ => none
noncomputable section
def runF (P : Prg) (cf : Nat → List D → Sto → Option (D × Sto)) (f : Fn) (ds : List D) (S : Sto) : Option (D × Sto) :=
  if ds.length = f.np then endF S.length (exB P cf f.body (ds.map (fun d => some (false, d)) ++ List.replicate (f.N.length - f.np) none) S) else none
def callF (P : Prg) : Nat → Nat → List D → Sto → Option (D × Sto)
  | 0, _, _, _ => none
  | k + 1, f, ds, S => (P.fns[f]?).bind fun g => runF P (callF P k) g ds S
end
end Pv

set_option Elab.async false
set_option linter.all false
set_option maxRecDepth 100000
set_option maxHeartbeats 8000000
/-! SndV: the hook, to be read early. -/
namespace Pv
open PySem PySem.Spec PyProof.Rows L2
abbrev Tc : Type := Str × List He.Dv
def obsV (fa : List He.Fa) (fn : List He.DefD) (ts : List Tc) (K : PySem.W.Frag) : He.AlD := ((He.obsD fa fn K).1 && ts.all fun t => He.tupB K t.1 t.2, (He.obsD fa fn K).2)
def SaysV (fa : List He.Fa) (fn : List He.DefD) (ts : List Tc) (K : PySem.W.Frag) : Prop := obsV fa fn ts K = He.valD fn
def obsVG (n : Nat) (fa : List He.Fa) (fn : List He.DefD) (ts : List Tc) (g : Addr → Option Obj) : He.AlD := obsV fa fn ts (He.frG g (He.asD g n))
def hookV (n : Nat) (fa : List He.Fa) (fn : List He.DefD) (ts : List Tc) : PySem.W.Hook where
  α := He.AlD
  obs := fun s => obsVG n fa fn ts s.heap.get?
  val := fun _ => He.valD fn
  says := fun _ h => ∃ K : PySem.W.Frag, K.In h ∧ SaysV fa fn ts K
  of := fun _ _ e => ⟨_, He.frG_in, e⟩
  keeps := fun _ _ _ ⟨K, hK, c⟩ k => ⟨K, PySem.W.Frag.In.keeps hK k, c⟩
theorem obsVG_eq {n : Nat} {fa : List He.Fa} {fn : List He.DefD} {ts : List Tc} {g : Addr → Option Obj} {s : Shared} (h : ∀ a, g a = s.heap.get? a) : obsVG n fa fn ts g = (hookV n fa fn ts).obs s := by
  have e : g = s.heap.get? := funext h
  rw [e] <;> rfl
def ddOf (g : Fn) (st : Stmt) : He.DefD := ⟨(g.name, none), g.own, g.own, defArgs st, defBody st, defScope st, [], []⟩
/-- the head's run in parts -/
theorem split4 {σ γ δ : Type} {e : Option σ} {f : σ → Bool} {g : σ → γ} {h : σ → Bool × δ} {a c : Bool} {b : γ} {d : δ} (h1 : (e.map f) = some a) (h2 : e.map g = some b) (h3 : (e.map fun s => (h s).1) = some c) (h4 : (e.map fun s => (h s).2) = some d) :
    (e.map fun s => (f s, g s, h s)) = some (a, b, (c, d)) := by
  cases e with
  | none => cases h1
  | some s =>
    injection h1 with h1
    injection h2 with h2
    injection h3 with h3
    injection h4 with h4
    show some (f s, g s, h s) = _
    rw [h1, h2, ← h3, ← h4]
/-- the hook's look in parts -/
theorem obs_app {n : Nat} {fa1 fa2 : List He.Fa} {fn1 fn2 : List He.DefD} {ts : List Tc} {g : Addr → Option Obj} : obsVG n (fa1 ++ fa2) (fn1 ++ fn2) ts g = ((obsVG n fa1 fn1 ts g).1 && (obsVG n fa2 fn2 [] g).1, (obsVG n fa1 fn1 ts g).2 ++ (obsVG n fa2 fn2 [] g).2) := by
  unfold obsVG obsV He.obsD
  simp only [List.all_append, List.map_append, List.all_nil, Bool.and_true]
  congr 1
  generalize (fa1.all fun f => f.ok (He.frG g (He.asD g n))) = a
  generalize (fa2.all fun f => f.ok (He.frG g (He.asD g n))) = b
  generalize (fn1.all fun f => f.ok (He.frG g (He.asD g n))) = c
  generalize (fn2.all fun f => f.ok (He.frG g (He.asD g n))) = d
  generalize (ts.all fun t => He.tupB (He.frG g (He.asD g n)) t.1 t.2) = e
  cases a <;> cases b <;> cases c <;> cases d <;> cases e <;> rfl
theorem join_c {σ : Type} {e : Option σ} {g : σ → Addr → Option Obj} {n : Nat} {fa1 fa2 : List He.Fa} {fn1 fn2 : List He.DefD} {ts : List Tc} (h1 : (e.map fun s => (obsVG n fa1 fn1 ts (g s)).1) = some true) (h2 : (e.map fun s => (obsVG n fa2 fn2 [] (g s)).1) = some true) :
    (e.map fun s => (obsVG n (fa1 ++ fa2) (fn1 ++ fn2) ts (g s)).1) = some true := by
  cases e with
  | none => cases h1
  | some s =>
    have h1 : (obsVG n fa1 fn1 ts (g s)).1 = true := Option.some.inj h1
    have h2 : (obsVG n fa2 fn2 [] (g s)).1 = true := Option.some.inj h2
    show some (obsVG n (fa1 ++ fa2) (fn1 ++ fn2) ts (g s)).1 = some true
    rw [obs_app]
    show some ((obsVG n fa1 fn1 ts (g s)).1 && (obsVG n fa2 fn2 [] (g s)).1) = some true
    rw [h1, h2]
    rfl
theorem join_d {σ : Type} {e : Option σ} {g : σ → Addr → Option Obj} {n : Nat} {fa1 fa2 : List He.Fa} {fn1 fn2 : List He.DefD} {ts : List Tc} (h1 : (e.map fun s => (obsVG n fa1 fn1 ts (g s)).2) = some (fn1.map He.DefD.val)) (h2 : (e.map fun s => (obsVG n fa2 fn2 [] (g s)).2) = some (fn2.map He.DefD.val)) :
    (e.map fun s => (obsVG n (fa1 ++ fa2) (fn1 ++ fn2) ts (g s)).2) = some ((fn1 ++ fn2).map He.DefD.val) := by
  cases e with
  | none => cases h1
  | some s =>
    have h1 : (obsVG n fa1 fn1 ts (g s)).2 = fn1.map He.DefD.val := Option.some.inj h1
    have h2 : (obsVG n fa2 fn2 [] (g s)).2 = fn2.map He.DefD.val := Option.some.inj h2
    show some (obsVG n (fa1 ++ fa2) (fn1 ++ fn2) ts (g s)).2 = _
    rw [obs_app]
    show some ((obsVG n fa1 fn1 ts (g s)).2 ++ (obsVG n fa2 fn2 [] (g s)).2) = _
    rw [h1, h2, List.map_append]
end Pv

set_option Elab.async false
set_option linter.all false
set_option maxRecDepth 100000
set_option maxHeartbeats 0
namespace Pv.K13
open PySem
def f0 : Fn := { name := "is_whole", N := ["value"], np := 1, body := [
  .ret (.and (.bi .isInt [.var 0]) (.not (.bi .isBool [.var 0])))] }
def f1 : Fn := { name := "is_tuple", N := ["value", "least", "most"], np := 3, body := [
  .ret (.and (.bi .isTuple [.var 0]) (.and (.cmp .LtE (.var 1) (.bi .len [.var 0])) (.or (.cmp .Is (.var 2) (.cst .non)) (.cmp .LtE (.bi .len [.var 0]) (.var 2)))))] }
def f2 : Fn := { name := "common", N := ["one", "other"], np := 2, body := [
  .par [0, 1] [.bi .abs [.var 0], .bi .abs [.var 1]],
  .whl (.cmp .NotEq (.var 1) (.cst (.int 0))) [.par [0, 1] [.var 1, .bin .Mod (.var 0) (.var 1)]],
  .ret (.var 0)] }
def f3 : Fn := { name := "fraction", N := ["top", "bottom", "by"], np := 2, body := [
  .set 2 (.call 2 [.var 0, .var 1]),
  .set 2 (.ite (.cmp .Gt (.var 1) (.cst (.int 0))) (.var 2) (.neg (.var 2))),
  .ret (.tup [.bin .FloorDiv (.var 0) (.var 2), .bin .FloorDiv (.var 1) (.var 2)])] }
def f4 : Fn := { name := "whole", N := ["number"], np := 1, body := [
  .ret (.tup [.var 0, .cst (.int 1)])] }
def f5 : Fn := { name := "is_fraction", N := ["value", "part"], np := 1, body := [
  .ite (.or (.not (.call 1 [.var 0, .glb 0, .glb 0])) (.not (.bi .all [.cmpr [1] (.nm 1) (.var 0) [] (.call 0 [.var 1])]))) [.ret (.cst (.bl false))] [],
  .ret (.and (.cmp .GtE (.idx (.var 0) (.cst (.int 1))) (.cst (.int 1))) (.cmp .Eq (.call 2 [.idx (.var 0) (.cst (.int 0)), .idx (.var 0) (.cst (.int 1))]) (.cst (.int 1))))] }
def f6 : Fn := { name := "plus", N := ["one", "other"], np := 2, body := [
  .ret (.call 3 [.bin .Add (.bin .Mult (.idx (.var 0) (.cst (.int 0))) (.idx (.var 1) (.cst (.int 1)))) (.bin .Mult (.idx (.var 1) (.cst (.int 0))) (.idx (.var 0) (.cst (.int 1)))), .bin .Mult (.idx (.var 0) (.cst (.int 1))) (.idx (.var 1) (.cst (.int 1)))])] }
def f7 : Fn := { name := "less", N := ["one", "other"], np := 2, body := [
  .ret (.call 3 [.bin .Sub (.bin .Mult (.idx (.var 0) (.cst (.int 0))) (.idx (.var 1) (.cst (.int 1)))) (.bin .Mult (.idx (.var 1) (.cst (.int 0))) (.idx (.var 0) (.cst (.int 1)))), .bin .Mult (.idx (.var 0) (.cst (.int 1))) (.idx (.var 1) (.cst (.int 1)))])] }
def f8 : Fn := { name := "times", N := ["one", "other"], np := 2, body := [
  .ret (.call 3 [.bin .Mult (.idx (.var 0) (.cst (.int 0))) (.idx (.var 1) (.cst (.int 0))), .bin .Mult (.idx (.var 0) (.cst (.int 1))) (.idx (.var 1) (.cst (.int 1)))])] }
def f9 : Fn := { name := "is_below", N := ["one", "other"], np := 2, body := [
  .ret (.cmp .Lt (.bin .Mult (.idx (.var 0) (.cst (.int 0))) (.idx (.var 1) (.cst (.int 1)))) (.bin .Mult (.idx (.var 1) (.cst (.int 0))) (.idx (.var 0) (.cst (.int 1)))))] }
def f10 : Fn := { name := "is_point", N := ["value"], np := 1, body := [
  .ret (.and (.call 1 [.var 0, .glb 2, .glb 2]) (.and (.call 5 [.idx (.var 0) (.cst (.int 0))]) (.call 5 [.idx (.var 0) (.cst (.int 1))])))] }
def f11 : Fn := { name := "check_point", N := ["value"], np := 1, body := [
  .ite (.not (.call 10 [.var 0])) [.bad] []] }
def f12 : Fn := { name := "is_half", N := ["value", "number"], np := 1, body := [
  .ite (.or (.not (.call 1 [.var 0, .glb 15, .glb 15])) (.or (.cmp .NotEq (.idx (.var 0) (.cst (.int 0))) (.glb 3)) (.not (.bi .all [.cmpr [1] (.nm 1) (.slc (.var 0) (some (.cst (.int 1))) none) [] (.call 0 [.var 1])])))) [.ret (.cst (.bl false))] [],
  .ret (.or (.cmp .NotEq (.idx (.var 0) (.cst (.int 1))) (.cst (.int 0))) (.cmp .NotEq (.idx (.var 0) (.glb 13)) (.cst (.int 0))))] }
def f13 : Fn := { name := "is_disc", N := ["value"], np := 1, body := [
  .ite (.or (.not (.call 1 [.var 0, .glb 14, .glb 14])) (.or (.cmp .NotEq (.idx (.var 0) (.cst (.int 0))) (.glb 4)) (.or (.not (.call 10 [.idx (.var 0) (.cst (.int 1))])) (.not (.call 5 [.idx (.var 0) (.neg (.cst (.int 1)))]))))) [.ret (.cst (.bl false))] [],
  .ret (.not (.call 9 [.idx (.var 0) (.neg (.cst (.int 1))), .glb 1]))] }
def f14 : Fn := { name := "is_part", N := ["value"], np := 1, body := [
  .ret (.or (.call 12 [.var 0]) (.call 13 [.var 0]))] }
def f15 : Fn := { name := "is_joint", N := ["value"], np := 1, body := [
  .ite (.or (.not (.call 1 [.var 0, .glb 13, .bin .Add (.glb 10) (.cst (.int 1))])) (.not (.bi .isStr [.idx (.var 0) (.cst (.int 0))]))) [.ret (.cst (.bl false))] [],
  .ret (.or (.cmp .In (.idx (.var 0) (.cst (.int 0))) (.tup [.glb 5, .glb 6])) (.and (.cmp .Eq (.idx (.var 0) (.cst (.int 0))) (.glb 7)) (.cmp .Eq (.bi .len [.var 0]) (.glb 13))))] }
def f16 : Fn := { name := "is_region", N := ["value", "todo", "many", "here", "deep", "inner"], np := 1, body := [
  .par2 1 true (.lst [.tup [.var 0, .cst (.int 1)]]) 2 false (.cst (.int 0)),
  .whl (.cmp .NotEq (.bor 1) (.lst [])) [.spop (.tp [.nm 3, .nm 4]) 1, .ite (.call 14 [.var 3]) [.aug 2 .Add (.cst (.int 1))] [.ite (.call 15 [.var 3]) [.ext 1 (.cmpr [5] (.nm 5) (.slc (.var 3) (some (.cst (.int 1))) none) [] (.tup [.var 5, .bin .Add (.var 4) (.cst (.int 1))]))] [.ret (.cst (.bl false))]], .ite (.or (.cmp .Gt (.var 4) (.glb 8)) (.cmp .Gt (.var 2) (.glb 9))) [.ret (.cst (.bl false))] []],
  .ret (.cst (.bl true))] }
def f17 : Fn := { name := "check_region", N := ["value"], np := 1, body := [
  .ite (.not (.call 16 [.var 0])) [.bad] []] }
def f18 : Fn := { name := "half_worth", N := ["region", "point", "word", "a", "b", "c"], np := 2, body := [
  .unp (.tp [.nm 2, .nm 3, .nm 4, .nm 5]) (.var 0),
  .ret (.call 7 [.call 4 [.var 5], .call 6 [.call 8 [.call 4 [.var 3], .idx (.var 1) (.cst (.int 0))], .call 8 [.call 4 [.var 4], .idx (.var 1) (.cst (.int 1))]]])] }
def f19 : Fn := { name := "square_of", N := ["one", "other", "sides", "here", "there"], np := 2, body := [
  .set 2 (.cmpr [3, 4] (.tp [.nm 3, .nm 4]) (.zip (.var 0) (.var 1)) [] (.call 7 [.var 3, .var 4])),
  .ret (.call 6 [.call 8 [.idx (.var 2) (.cst (.int 0)), .idx (.var 2) (.cst (.int 0))], .call 8 [.idx (.var 2) (.cst (.int 1)), .idx (.var 2) (.cst (.int 1))]])] }
def f20 : Fn := { name := "is_in_region", N := ["region", "point", "some", "inner"], np := 2, body := [
  .ite (.cmp .Eq (.idx (.var 0) (.cst (.int 0))) (.glb 3)) [.ret (.cmp .GtE (.idx (.call 18 [.var 0, .var 1]) (.cst (.int 0))) (.cst (.int 0)))] [],
  .ite (.cmp .Eq (.idx (.var 0) (.cst (.int 0))) (.glb 4)) [.ret (.not (.call 9 [.idx (.var 0) (.neg (.cst (.int 1))), .call 19 [.idx (.var 0) (.cst (.int 1)), .var 1]]))] [],
  .set 2 (.cmpr [3] (.nm 3) (.slc (.var 0) (some (.cst (.int 1))) none) [] (.call 20 [.var 3, .var 1])),
  .ite (.cmp .Eq (.idx (.var 0) (.cst (.int 0))) (.glb 7)) [.ret (.not (.idx (.var 2) (.cst (.int 0))))] [],
  .ret (.ite (.cmp .Eq (.idx (.var 0) (.cst (.int 0))) (.glb 5)) (.bi .all [.var 2]) (.bi .any [.var 2]))] }
def f21 : Fn := { name := "is_in", N := ["region", "point"], np := 2, body := [
  .exp (.call 17 [.var 0]),
  .exp (.call 11 [.var 1]),
  .ret (.call 20 [.var 0, .var 1])] }
def f22 : Fn := { name := "turn", N := ["one", "two", "three", "here"], np := 3, body := [
  .set 3 (.call 8 [.call 7 [.idx (.var 1) (.cst (.int 0)), .idx (.var 0) (.cst (.int 0))], .call 7 [.idx (.var 2) (.cst (.int 1)), .idx (.var 0) (.cst (.int 1))]]),
  .ret (.idx (.call 7 [.var 3, .call 8 [.call 7 [.idx (.var 1) (.cst (.int 1)), .idx (.var 0) (.cst (.int 1))], .call 7 [.idx (.var 2) (.cst (.int 0)), .idx (.var 0) (.cst (.int 0))]]]) (.cst (.int 0)))] }
def f23 : Fn := { name := "is_ahead", N := ["one", "other"], np := 2, body := [
  .ret (.or (.call 9 [.idx (.var 0) (.cst (.int 0)), .idx (.var 1) (.cst (.int 0))]) (.and (.cmp .Eq (.idx (.var 0) (.cst (.int 0))) (.idx (.var 1) (.cst (.int 0)))) (.call 9 [.idx (.var 0) (.cst (.int 1)), .idx (.var 1) (.cst (.int 1))])))] }
def f24 : Fn := { name := "is_patch", N := ["value", "at", "point", "others", "other"], np := 1, body := [
  .ite (.or (.not (.call 1 [.var 0, .glb 11, .glb 12])) (.not (.bi .all [.cmpr [2] (.nm 2) (.var 0) [] (.call 10 [.var 2])]))) [.ret (.cst (.bl false))] [],
  .ite (.not (.bi .all [.cmpr [2] (.nm 2) (.slc (.var 0) (some (.cst (.int 1))) none) [] (.call 23 [.idx (.var 0) (.cst (.int 0)), .var 2])])) [.ret (.cst (.bl false))] [],
  .for_ (.tp [.nm 1, .nm 2]) (.enu (.var 0)) [.set 3 (.cmpr [4] (.nm 4) (.var 0) [.cmp .NotIn (.var 4) (.tup [.idx (.var 0) (.bin .Sub (.var 1) (.cst (.int 1))), .var 2])] (.var 4)), .ite (.not (.bi .all [.cmpr [4] (.nm 4) (.var 3) [] (.cmp .Gt (.call 22 [.idx (.var 0) (.bin .Sub (.var 1) (.cst (.int 1))), .var 2, .var 4]) (.cst (.int 0)))])) [.ret (.cst (.bl false))] []],
  .ret (.cmp .Eq (.dlen 2 (.var 0)) (.bi .len [.var 0]))] }
def f25 : Fn := { name := "check_patch", N := ["value"], np := 1, body := [
  .ite (.not (.call 24 [.var 0])) [.bad] []] }
def f26 : Fn := { name := "half_of", N := ["one", "other", "c", "bottom", "told", "by", "a", "b", "top", "under"], np := 2, body := [
  .par [6, 7] [.call 7 [.idx (.var 1) (.cst (.int 1)), .idx (.var 0) (.cst (.int 1))], .call 7 [.idx (.var 0) (.cst (.int 0)), .idx (.var 1) (.cst (.int 0))]],
  .set 2 (.call 6 [.call 8 [.var 6, .idx (.var 0) (.cst (.int 0))], .call 8 [.var 7, .idx (.var 0) (.cst (.int 1))]]),
  .set 3 (.bin .Mult (.bin .Mult (.idx (.var 6) (.cst (.int 1))) (.idx (.var 7) (.cst (.int 1)))) (.idx (.var 2) (.cst (.int 1)))),
  .set 4 (.cmpr [8, 9] (.tp [.nm 8, .nm 9]) (.tup [.var 6, .var 7, .var 2]) [] (.bin .Mult (.var 8) (.bin .FloorDiv (.var 3) (.var 9)))),
  .set 5 (.call 2 [.call 2 [.idx (.var 4) (.cst (.int 0)), .idx (.var 4) (.cst (.int 1))], .idx (.var 4) (.neg (.cst (.int 1)))]),
  .ret (.tup [.glb 3, .bin .FloorDiv (.idx (.var 4) (.cst (.int 0))) (.var 5), .bin .FloorDiv (.idx (.var 4) (.cst (.int 1))) (.var 5), .bin .FloorDiv (.idx (.var 4) (.neg (.cst (.int 1)))) (.var 5)])] }
def f27 : Fn := { name := "region_of", N := ["patch", "one", "other"], np := 1, body := [
  .exp (.call 25 [.var 0]),
  .ret (.tup [.glb 5, .star (.cmpr [1, 2] (.tp [.nm 1, .nm 2]) (.zip (.var 0) (.lst [.star (.slc (.var 0) (some (.cst (.int 1))) none), .idx (.var 0) (.cst (.int 0))])) [] (.call 26 [.var 1, .var 2]))])] }
def f28 : Fn := { name := "moved_half", N := ["region", "by", "word", "a", "b", "c", "top", "bottom"], np := 2, body := [
  .unp (.tp [.nm 2, .nm 3, .nm 4, .nm 5]) (.var 0),
  .unp (.tp [.nm 6, .nm 7]) (.call 6 [.call 4 [.var 5], .call 6 [.call 8 [.call 4 [.var 3], .idx (.var 1) (.cst (.int 0))], .call 8 [.call 4 [.var 4], .idx (.var 1) (.cst (.int 1))]]]),
  .ret (.tup [.glb 3, .bin .Mult (.var 3) (.var 7), .bin .Mult (.var 4) (.var 7), .var 6])] }
def f29 : Fn := { name := "moved_by", N := ["region", "by", "inner"], np := 2, body := [
  .ite (.cmp .Eq (.idx (.var 0) (.cst (.int 0))) (.glb 3)) [.ret (.call 28 [.var 0, .var 1])] [],
  .ite (.cmp .Eq (.idx (.var 0) (.cst (.int 0))) (.glb 4)) [.ret (.tup [.glb 4, .tup [.call 6 [.idx (.idx (.var 0) (.cst (.int 1))) (.cst (.int 0)), .idx (.var 1) (.cst (.int 0))], .call 6 [.idx (.idx (.var 0) (.cst (.int 1))) (.cst (.int 1)), .idx (.var 1) (.cst (.int 1))]], .idx (.var 0) (.neg (.cst (.int 1)))])] [],
  .ret (.tup [.idx (.var 0) (.cst (.int 0)), .star (.cmpr [2] (.nm 2) (.slc (.var 0) (some (.cst (.int 1))) none) [] (.call 29 [.var 2, .var 1]))])] }
def f30 : Fn := { name := "moved", N := ["region", "by"], np := 2, body := [
  .exp (.call 17 [.var 0]),
  .exp (.call 11 [.var 1]),
  .ret (.call 29 [.var 0, .var 1])] }
def f31 : Fn := { name := "_law_pot", N := ["script", "place", "cell", "own", "small"], np := 2, body := [
  .set 2 (.ite (.cmp .Lt (.var 1) (.bi .len [.var 0])) (.idx (.var 0) (.var 1)) (.bin .Add (.bin .Add (.bin .Mod (.bi .int [.bi .sum [.slc (.var 0) none (some (.cst (.int 1)))]]) (.cst (.int 1000003))) (.bin .Mult (.cst (.int 1601)) (.var 1))) (.cst (.int 1093)))),
  .set 3 (.bin .Mult (.bin .Mod (.bi .int [.bi .abs [.var 2]]) (.bin .Pow (.bin .Pow (.cst (.int 10)) (.cst (.int 60))) (.cst (.int 5)))) (.bi .int [.cmp .GtE (.bi .abs [.var 2]) (.bin .Pow (.cst (.int 10)) (.cst (.int 18)))])),
  .set 4 (.bin .Mod (.bi .int [.var 2]) (.cst (.int 2305843009213693951))),
  .ret (.box [.var 3, .bin .Mod (.bi .int [.bin .Add (.bin .Add (.bin .Mult (.var 4) (.cst (.int 85795))) (.bin .Mult (.bin .Mult (.cst (.int 10057)) (.var 1)) (.var 1))) (.cst (.int 601))]) (.cst (.int 2305843009213693921)), .cst (.int 0)])] }
def f32 : Fn := { name := "_law_take", N := ["pot", "upto", "prime", "blend", "digit"], np := 2, body := [
  .ite (.cmp .Gt (.idx (.var 0) (.cst (.int 0))) (.cst (.int 0))) [.set 4 (.bin .Mod (.bi .int [.idx (.var 0) (.cst (.int 0))]) (.var 1)), .put (.var 0) (.cst (.int 0)) (.bin .FloorDiv (.idx (.var 0) (.cst (.int 0))) (.var 1)), .ret (.var 4)] [],
  .put (.var 0) (.cst (.int 2)) (.bin .Add (.idx (.var 0) (.cst (.int 2))) (.cst (.int 1))),
  .set 2 (.idx (.lst [.cst (.int 2147483647), .cst (.int 2147483629), .cst (.int 2147483587), .cst (.int 2147483579), .cst (.int 2147483563)]) (.bin .Mod (.bi .int [.idx (.var 0) (.cst (.int 2))]) (.cst (.int 5)))),
  .set 3 (.bin .Mod (.bi .int [.bin .Pow (.bi .int [.bin .Add (.bin .Add (.idx (.var 0) (.cst (.int 1))) (.bin .Mult (.bin .Mult (.cst (.int 100337)) (.idx (.var 0) (.cst (.int 2)))) (.idx (.var 0) (.cst (.int 2))))) (.cst (.int 1235))]) (.cst (.int 3))]) (.var 2)),
  .ret (.bin .Mod (.bi .int [.bin .FloorDiv (.bin .Mult (.var 3) (.bin .Add (.bin .Mod (.bi .int [.var 3]) (.cst (.int 10927))) (.bin .Mult (.cst (.int 441)) (.idx (.var 0) (.cst (.int 2)))))) (.cst (.int 265))]) (.var 1))] }
def f33 : Fn := { name := "_law_of", N := ["pot", "some"], np := 2, body := [
  .ret (.idx (.var 1) (.call 32 [.var 0, .bi .len [.var 1]]))] }
def f34 : Fn := { name := "_law_cells", N := ["script", "limit"], np := 2, body := [
  .ret (.bi .list [.rng [.bi .max2 [.cst (.int 1), .bi .min2 [.var 1, .bi .len [.var 0]]]]])] }
def f35 : Fn := { name := "_law_common", N := ["one", "other"], np := 2, body := [
  .par [0, 1] [.bi .abs [.var 0], .bi .abs [.var 1]],
  .whl (.cmp .NotEq (.var 1) (.cst (.int 0))) [.par [0, 1] [.var 1, .bin .Mod (.var 0) (.var 1)]],
  .ret (.var 0)] }
def f36 : Fn := { name := "_law_fraction", N := ["top", "bottom", "part"], np := 2, body := [
  .set 2 (.call 35 [.var 0, .var 1]),
  .ret (.ite (.cmp .Gt (.var 1) (.cst (.int 0))) (.tup [.bin .FloorDiv (.var 0) (.var 2), .bin .FloorDiv (.var 1) (.var 2)]) (.tup [.bin .FloorDiv (.neg (.var 0)) (.var 2), .bin .FloorDiv (.neg (.var 1)) (.var 2)]))] }
def f37 : Fn := { name := "_law_drawn_fraction", N := ["pot", "most"], np := 2, body := [
  .ret (.call 36 [.bin .Sub (.call 32 [.var 0, .bin .Add (.bin .Mult (.cst (.int 2)) (.var 1)) (.cst (.int 1))]) (.var 1), .call 33 [.var 0, .lst [.cst (.int 1), .cst (.int 1), .cst (.int 1), .cst (.int 2), .cst (.int 3)]]])] }
def f38 : Fn := { name := "_law_drawn_point", N := ["pot", "most"], np := 2, body := [
  .ret (.tup [.call 37 [.var 0, .var 1], .call 37 [.var 0, .var 1]])] }
def f39 : Fn := { name := "_law_drawn_region", N := ["pot", "deep", "way", "a", "b", "lap"], np := 2, body := [
  .set 2 (.ite (.cmp .Gt (.var 1) (.cst (.int 0))) (.call 32 [.var 0, .cst (.int 7)]) (.call 32 [.var 0, .cst (.int 3)])),
  .ite (.cmp .Eq (.var 2) (.cst (.int 0))) [.unp (.tp [.nm 3, .nm 4]) (.call 33 [.var 0, .lst [.tup [.cst (.int 1), .cst (.int 0)], .tup [.cst (.int 0), .cst (.int 1)], .tup [.neg (.cst (.int 1)), .cst (.int 0)], .tup [.cst (.int 0), .neg (.cst (.int 1))], .tup [.cst (.int 1), .cst (.int 1)], .tup [.cst (.int 2), .neg (.cst (.int 1))], .tup [.neg (.cst (.int 3)), .cst (.int 2)]]]), .ret (.tup [.cst (.str "half"), .var 3, .var 4, .bin .Sub (.call 32 [.var 0, .cst (.int 9)]) (.cst (.int 4))])] [],
  .ite (.cmp .Lt (.var 2) (.cst (.int 4))) [.ret (.tup [.cst (.str "disc"), .call 38 [.var 0, .cst (.int 3)], .call 33 [.var 0, .lst [.tup [.cst (.int 1), .cst (.int 1)], .tup [.cst (.int 2), .cst (.int 1)], .tup [.cst (.int 4), .cst (.int 1)], .tup [.cst (.int 9), .cst (.int 4)], .tup [.cst (.int 0), .cst (.int 1)], .tup [.cst (.int 5), .cst (.int 1)]]]])] [],
  .ite (.cmp .Eq (.var 2) (.cst (.int 6))) [.ret (.tup [.cst (.str "not"), .call 39 [.var 0, .bin .Sub (.var 1) (.cst (.int 1))]])] [],
  .ret (.bin .Add (.tup [.call 33 [.var 0, .lst [.cst (.str "and"), .cst (.str "or")]]]) (.bi .tuple [.cmpr [5] (.nm 5) (.rng [.bin .Add (.cst (.int 1)) (.call 32 [.var 0, .cst (.int 3)])]) [] (.call 39 [.var 0, .bin .Sub (.var 1) (.cst (.int 1))])]))] }
def f40 : Fn := { name := "_law_plus", N := ["one", "other"], np := 2, body := [
  .ret (.call 36 [.bin .Add (.bin .Mult (.idx (.var 0) (.cst (.int 0))) (.idx (.var 1) (.cst (.int 1)))) (.bin .Mult (.idx (.var 1) (.cst (.int 0))) (.idx (.var 0) (.cst (.int 1)))), .bin .Mult (.idx (.var 0) (.cst (.int 1))) (.idx (.var 1) (.cst (.int 1)))])] }
def f41 : Fn := { name := "_law_times", N := ["one", "other"], np := 2, body := [
  .ret (.call 36 [.bin .Mult (.idx (.var 0) (.cst (.int 0))) (.idx (.var 1) (.cst (.int 0))), .bin .Mult (.idx (.var 0) (.cst (.int 1))) (.idx (.var 1) (.cst (.int 1)))])] }
def f42 : Fn := { name := "_law_minus", N := ["one", "other"], np := 2, body := [
  .ret (.call 40 [.var 0, .tup [.neg (.idx (.var 1) (.cst (.int 0))), .idx (.var 1) (.cst (.int 1))]])] }
def f43 : Fn := { name := "_law_is_upto", N := ["one", "other"], np := 2, body := [
  .ret (.cmp .LtE (.bin .Mult (.idx (.var 0) (.cst (.int 0))) (.idx (.var 1) (.cst (.int 1)))) (.bin .Mult (.idx (.var 1) (.cst (.int 0))) (.idx (.var 0) (.cst (.int 1)))))] }
def f44 : Fn := { name := "_law_square_of", N := ["one", "other", "x", "y"], np := 2, body := [
  .par [2, 3] [.call 42 [.idx (.var 0) (.cst (.int 0)), .idx (.var 1) (.cst (.int 0))], .call 42 [.idx (.var 0) (.cst (.int 1)), .idx (.var 1) (.cst (.int 1))]],
  .ret (.call 40 [.call 41 [.var 2, .var 2], .call 41 [.var 3, .var 3]])] }
def f45 : Fn := { name := "_law_is_in", N := ["region", "point", "told", "part"], np := 2, body := [
  .ite (.cmp .Eq (.idx (.var 0) (.cst (.int 0))) (.cst (.str "half"))) [.ret (.call 43 [.call 40 [.call 41 [.tup [.idx (.var 0) (.cst (.int 1)), .cst (.int 1)], .idx (.var 1) (.cst (.int 0))], .call 41 [.tup [.idx (.var 0) (.cst (.int 2)), .cst (.int 1)], .idx (.var 1) (.cst (.int 1))]], .tup [.idx (.var 0) (.cst (.int 3)), .cst (.int 1)]])] [],
  .ite (.cmp .Eq (.idx (.var 0) (.cst (.int 0))) (.cst (.str "disc"))) [.ret (.call 43 [.call 44 [.idx (.var 0) (.cst (.int 1)), .var 1], .idx (.var 0) (.cst (.int 2))])] [],
  .set 2 (.cmpr [3] (.nm 3) (.slc (.var 0) (some (.cst (.int 1))) none) [] (.call 45 [.var 3, .var 1])),
  .ret (.ite (.cmp .Eq (.idx (.var 0) (.cst (.int 0))) (.cst (.str "and"))) (.bi .all [.var 2]) (.ite (.cmp .Eq (.idx (.var 0) (.cst (.int 0))) (.cst (.str "or"))) (.bi .any [.var 2]) (.not (.idx (.var 2) (.cst (.int 0))))))] }
def f46 : Fn := { name := "_law_sided", N := ["one", "two", "three", "a", "b", "c", "d"], np := 3, body := [
  .par [3, 4] [.call 42 [.idx (.var 1) (.cst (.int 0)), .idx (.var 0) (.cst (.int 0))], .call 42 [.idx (.var 1) (.cst (.int 1)), .idx (.var 0) (.cst (.int 1))]],
  .par [5, 6] [.call 42 [.idx (.var 2) (.cst (.int 0)), .idx (.var 0) (.cst (.int 0))], .call 42 [.idx (.var 2) (.cst (.int 1)), .idx (.var 0) (.cst (.int 1))]],
  .ret (.idx (.call 42 [.call 41 [.var 3, .var 6], .call 41 [.var 4, .var 5]]) (.cst (.int 0)))] }
def f47 : Fn := { name := "_law_drawn_patch", N := ["pot", "shapes", "found", "by", "a", "b", "x", "y"], np := 1, body := [
  .own 1 (.lst [.tup [.tup [.cst (.int 0), .cst (.int 0)], .tup [.cst (.int 2), .cst (.int 0)], .tup [.cst (.int 0), .cst (.int 2)]], .tup [.tup [.cst (.int 0), .cst (.int 0)], .tup [.cst (.int 3), .neg (.cst (.int 1))], .tup [.cst (.int 4), .cst (.int 2)]], .tup [.tup [.cst (.int 0), .cst (.int 0)], .tup [.cst (.int 2), .cst (.int 0)], .tup [.cst (.int 2), .cst (.int 2)], .tup [.cst (.int 0), .cst (.int 2)]], .tup [.tup [.cst (.int 0), .cst (.int 1)], .tup [.cst (.int 1), .cst (.int 0)], .tup [.cst (.int 5), .cst (.int 0)], .tup [.cst (.int 4), .cst (.int 1)]]]),
  .ext 1 (.lst [.tup [.tup [.cst (.int 0), .cst (.int 0)], .tup [.cst (.int 1), .neg (.cst (.int 2))], .tup [.cst (.int 4), .neg (.cst (.int 1))], .tup [.cst (.int 3), .cst (.int 3)], .tup [.cst (.int 1), .cst (.int 3)]], .tup [.tup [.cst (.int 0), .cst (.int 0)], .tup [.cst (.int 2), .neg (.cst (.int 1))], .tup [.cst (.int 4), .cst (.int 0)], .tup [.cst (.int 4), .cst (.int 3)], .tup [.cst (.int 2), .cst (.int 4)], .tup [.cst (.int 0), .cst (.int 3)]]]),
  .unp (.tp [.nm 3, .tp [.nm 6, .nm 7]]) (.tup [.call 33 [.var 0, .lst [.tup [.cst (.int 1), .cst (.int 1)], .tup [.cst (.int 1), .cst (.int 2)], .tup [.cst (.int 2), .cst (.int 3)], .tup [.cst (.int 3), .cst (.int 1)]]], .call 38 [.var 0, .cst (.int 4)]]),
  .own 2 (.lst []),
  .frz [1] (.for_ (.tp [.nm 4, .nm 5]) (.call 33 [.var 0, .var 1]) [.app 2 (.tup [.call 40 [.call 41 [.tup [.var 4, .cst (.int 1)], .var 3], .var 6], .call 40 [.call 41 [.tup [.var 5, .cst (.int 1)], .var 3], .var 7]])]),
  .ret (.bi .tuple [.bor 2])] }
def f48 : Fn := { name := "_law_is_in_patch", N := ["patch", "point", "one", "other"], np := 2, body := [
  .ret (.bi .all [.cmpr [2, 3] (.tp [.nm 2, .nm 3]) (.zip (.var 0) (.bin .Add (.slc (.var 0) (some (.cst (.int 1))) none) (.slc (.var 0) none (some (.cst (.int 1)))))) [] (.cmp .GtE (.call 46 [.var 2, .var 3, .var 1]) (.cst (.int 0)))])] }
def f49 : Fn := { name := "_law_moved", N := ["region", "by", "told", "part"], np := 2, body := [
  .ite (.cmp .Eq (.idx (.var 0) (.cst (.int 0))) (.cst (.str "half"))) [.set 2 (.call 40 [.tup [.idx (.var 0) (.cst (.int 3)), .cst (.int 1)], .call 40 [.call 41 [.tup [.idx (.var 0) (.cst (.int 1)), .cst (.int 1)], .idx (.var 1) (.cst (.int 0))], .call 41 [.tup [.idx (.var 0) (.cst (.int 2)), .cst (.int 1)], .idx (.var 1) (.cst (.int 1))]]]), .ret (.tup [.cst (.str "half"), .bin .Mult (.idx (.var 0) (.cst (.int 1))) (.idx (.var 2) (.cst (.int 1))), .bin .Mult (.idx (.var 0) (.cst (.int 2))) (.idx (.var 2) (.cst (.int 1))), .idx (.var 2) (.cst (.int 0))])] [],
  .ite (.cmp .Eq (.idx (.var 0) (.cst (.int 0))) (.cst (.str "disc"))) [.ret (.tup [.cst (.str "disc"), .tup [.call 40 [.idx (.idx (.var 0) (.cst (.int 1))) (.cst (.int 0)), .idx (.var 1) (.cst (.int 0))], .call 40 [.idx (.idx (.var 0) (.cst (.int 1))) (.cst (.int 1)), .idx (.var 1) (.cst (.int 1))]], .idx (.var 0) (.cst (.int 2))])] [],
  .ret (.bin .Add (.tup [.idx (.var 0) (.cst (.int 0))]) (.bi .tuple [.cmpr [3] (.nm 3) (.slc (.var 0) (some (.cst (.int 1))) none) [] (.call 49 [.var 3, .var 1])]))] }
def f50 : Fn := { name := "_law_half_of", N := ["one", "other", "c", "many", "whole_v", "part", "x", "y", "a", "b", "number"], np := 2, body := [
  .par [6, 7] [.call 42 [.idx (.var 1) (.cst (.int 0)), .idx (.var 0) (.cst (.int 0))], .call 42 [.idx (.var 1) (.cst (.int 1)), .idx (.var 0) (.cst (.int 1))]],
  .par [8, 9] [.var 7, .tup [.neg (.idx (.var 6) (.cst (.int 0))), .idx (.var 6) (.cst (.int 1))]],
  .set 2 (.call 40 [.call 41 [.var 8, .idx (.var 0) (.cst (.int 0))], .call 41 [.var 9, .idx (.var 0) (.cst (.int 1))]]),
  .set 3 (.bin .Mult (.bin .Mult (.idx (.var 8) (.cst (.int 1))) (.idx (.var 9) (.cst (.int 1)))) (.idx (.var 2) (.cst (.int 1)))),
  .set 4 (.cmpr [10] (.nm 10) (.tup [.var 8, .var 9, .var 2]) [] (.bin .Mult (.idx (.var 10) (.cst (.int 0))) (.bin .FloorDiv (.var 3) (.idx (.var 10) (.cst (.int 1)))))),
  .set 5 (.call 35 [.call 35 [.idx (.var 4) (.cst (.int 0)), .idx (.var 4) (.cst (.int 1))], .idx (.var 4) (.cst (.int 2))]),
  .ret (.tup [.cst (.str "half"), .bin .FloorDiv (.idx (.var 4) (.cst (.int 0))) (.var 5), .bin .FloorDiv (.idx (.var 4) (.cst (.int 1))) (.var 5), .bin .FloorDiv (.idx (.var 4) (.cst (.int 2))) (.var 5)])] }
def f51 : Fn := { name := "_law_patch_points", N := ["pot", "patch", "part", "on", "one", "other", "here", "there"], np := 2, body := [
  .par [4, 5] [.call 33 [.var 0, .var 1], .call 33 [.var 0, .var 1]],
  .set 2 (.call 33 [.var 0, .lst [.tup [.cst (.int 0), .cst (.int 1)], .tup [.cst (.int 1), .cst (.int 2)], .tup [.cst (.int 1), .cst (.int 3)], .tup [.cst (.int 1), .cst (.int 1)], .tup [.cst (.int 3), .cst (.int 2)], .tup [.neg (.cst (.int 1)), .cst (.int 5)]]]),
  .set 3 (.bi .tuple [.cmpr [6, 7] (.tp [.nm 6, .nm 7]) (.zip (.var 4) (.var 5)) [] (.call 40 [.var 6, .call 41 [.var 2, .call 42 [.var 7, .var 6]]])]),
  .ret (.lst [.var 4, .var 3, .call 38 [.var 0, .cst (.int 5)]])] }
def f52 : Fn := { name := "_law_right", N := ["pot", "lap", "patch", "told", "time", "region", "by", "point", "due", "there", "one", "other"], np := 1, body := [
  .for_ (.nm 1) (.rng [.cst (.int 5)]) [.par [5, 6] [.call 39 [.var 0, .call 32 [.var 0, .cst (.int 4)]], .call 38 [.var 0, .cst (.int 3)]], .set 3 (.callk 0 [] [.var 5, .var 6]), .ite (.cmp .NotEq (.bi .repr [.var 3]) (.bi .repr [.call 49 [.var 5, .var 6]])) [.ret (.cst (.bl false))] [], .for_ (.nm 4) (.rng [.cst (.int 4)]) [.set 7 (.call 38 [.var 0, .cst (.int 5)]), .set 8 (.call 45 [.var 5, .var 7]), .set 9 (.tup [.call 40 [.idx (.var 7) (.cst (.int 0)), .idx (.var 6) (.cst (.int 0))], .call 40 [.idx (.var 7) (.cst (.int 1)), .idx (.var 6) (.cst (.int 1))]]), .ite (.or (.cmp .NotEq (.bi .repr [.callk 1 [] [.var 5, .var 7]]) (.bi .repr [.var 8])) (.cmp .NotEq (.bi .repr [.call 21 [.var 3, .var 9]]) (.bi .repr [.var 8]))) [.ret (.cst (.bl false))] []]],
  .set 2 (.call 47 [.var 0]),
  .set 3 (.callk 2 [] [.var 2]),
  .ite (.cmp .NotEq (.bi .repr [.var 3]) (.bi .repr [.bin .Add (.tup [.cst (.str "and")]) (.bi .tuple [.cmpr [10, 11] (.tp [.nm 10, .nm 11]) (.zip (.var 2) (.bin .Add (.slc (.var 2) (some (.cst (.int 1))) none) (.slc (.var 2) none (some (.cst (.int 1)))))) [] (.call 50 [.var 10, .var 11])])])) [.ret (.cst (.bl false))] [],
  .ret (.bi .all [.cmpr [7] (.nm 7) (.bin .Add (.call 51 [.var 0, .var 2]) (.call 51 [.var 0, .var 2])) [] (.cmp .Eq (.bi .repr [.call 21 [.var 3, .var 7]]) (.bi .repr [.call 48 [.var 2, .var 7]]))])] }
def f53 : Fn := { name := "law", N := ["script", "place"], np := 1, body := [
  .ret (.bi .all [.cmpr [1] (.nm 1) (.call 34 [.var 0, .cst (.int 2)]) [] (.call 52 [.call 31 [.var 0, .var 1]])])] }
def prg : Prg := ⟨[f0, f1, f2, f3, f4, f5, f6, f7, f8, f9, f10, f11, f12, f13, f14, f15, f16, f17, f18, f19, f20, f21, f22, f23, f24, f25, f26, f27, f28, f29, f30, f31, f32, f33, f34, f35, f36, f37, f38, f39, f40, f41, f42, f43, f44, f45, f46, f47, f48, f49, f50, f51, f52, f53], [("PAIR_numbers", .int 2), ("NOUGHT", .tup [.int 0, .int 1]), ("PAIR_points", .int 2), ("HALF", .str "half"), ("DISC", .str "disc"), ("AND", .str "and"), ("OR", .str "or"), ("NOT", .str "not"), ("MOST_DEEP", .int 8), ("MOST_PARTS", .int 30), ("MOST_INNER", .int 8), ("LEAST_CORNERS", .int 3), ("MOST_CORNERS", .int 8), ("PAIR_regions", .int 2), ("TRIPLE", .int 3), ("FOUR", .int 4)],
  [⟨30, 0, ["region", "by"], [0, 1]⟩,
   ⟨21, 0, ["region", "point"], [0, 1]⟩,
   ⟨27, 0, ["patch"], [0]⟩]⟩
@[simp] theorem gc0 : prg.csts[0]? = some (("PAIR_numbers", .int 2) : Str × D) := rfl
@[simp] theorem gc1 : prg.csts[1]? = some (("NOUGHT", .tup [.int 0, .int 1]) : Str × D) := rfl
@[simp] theorem gc2 : prg.csts[2]? = some (("PAIR_points", .int 2) : Str × D) := rfl
@[simp] theorem gc3 : prg.csts[3]? = some (("HALF", .str "half") : Str × D) := rfl
@[simp] theorem gc4 : prg.csts[4]? = some (("DISC", .str "disc") : Str × D) := rfl
@[simp] theorem gc5 : prg.csts[5]? = some (("AND", .str "and") : Str × D) := rfl
@[simp] theorem gc6 : prg.csts[6]? = some (("OR", .str "or") : Str × D) := rfl
@[simp] theorem gc7 : prg.csts[7]? = some (("NOT", .str "not") : Str × D) := rfl
@[simp] theorem gc8 : prg.csts[8]? = some (("MOST_DEEP", .int 8) : Str × D) := rfl
@[simp] theorem gc9 : prg.csts[9]? = some (("MOST_PARTS", .int 30) : Str × D) := rfl
@[simp] theorem gc10 : prg.csts[10]? = some (("MOST_INNER", .int 8) : Str × D) := rfl
@[simp] theorem gc11 : prg.csts[11]? = some (("LEAST_CORNERS", .int 3) : Str × D) := rfl
@[simp] theorem gc12 : prg.csts[12]? = some (("MOST_CORNERS", .int 8) : Str × D) := rfl
@[simp] theorem gc13 : prg.csts[13]? = some (("PAIR_regions", .int 2) : Str × D) := rfl
@[simp] theorem gc14 : prg.csts[14]? = some (("TRIPLE", .int 3) : Str × D) := rfl
@[simp] theorem gc15 : prg.csts[15]? = some (("FOUR", .int 4) : Str × D) := rfl
@[simp] theorem gk0 : prg.kws[0]? = some (⟨30, 0, ["region", "by"], [0, 1]⟩ : Kwf) := rfl
@[simp] theorem gk1 : prg.kws[1]? = some (⟨21, 0, ["region", "point"], [0, 1]⟩ : Kwf) := rfl
@[simp] theorem gk2 : prg.kws[2]? = some (⟨27, 0, ["patch"], [0]⟩ : Kwf) := rfl
end Pv.K13

set_option Elab.async false
set_option linter.all false
set_option maxRecDepth 100000
set_option maxHeartbeats 0
namespace Pv.K13
open PySem PySem.Spec PyProof.Rows L2
def top (i : Nat) : Stmt := PySem.Challenge.pw_crossingstold_k13_whole_points_in_region.main.body.getD i (.Pass ⟨0, 0, 0, 0⟩)
def tix : List Nat := [6, 7, 11, 12, 13, 14, 15, 16, 17, 18, 21, 22, 37, 38, 39, 40, 41, 42, 43, 44, 45, 46, 47, 48, 49, 50, 51, 52, 53, 54, 55, 57, 58, 59, 60, 61, 62, 63, 64, 65, 66, 67, 68, 69, 70, 71, 72, 73, 74, 75, 76, 77, 78, 79]
def tx (j : Nat) : Stmt := top (tix.getD j 0)
def fcs1 : List He.Fa := [.glo "is_whole", .glo "is_tuple", .glo "common", .glo "fraction", .glo "whole", .glo "is_fraction", .glo "plus", .glo "less", .glo "times", .glo "is_below", .glo "is_point", .glo "check_point", .glo "is_half", .glo "is_disc", .glo "is_part", .glo "is_joint", .glo "is_region", .glo "check_region", .glo "half_worth", .glo "square_of", .glo "is_in_region", .glo "is_in", .glo "turn", .glo "is_ahead", .glo "is_patch", .glo "check_patch", .glo "half_of", .glo "region_of", .glo "moved_half", .glo "moved_by", .glo "moved"]
def fcs2 : List He.Fa := [.glo "_law_pot", .glo "_law_take", .glo "_law_of", .glo "_law_cells", .glo "_law_common", .glo "_law_fraction", .glo "_law_drawn_fraction", .glo "_law_drawn_point", .glo "_law_drawn_region", .glo "_law_plus", .glo "_law_times", .glo "_law_minus", .glo "_law_is_upto", .glo "_law_square_of", .glo "_law_is_in", .glo "_law_sided", .glo "_law_drawn_patch", .glo "_law_is_in_patch", .glo "_law_moved", .glo "_law_half_of", .glo "_law_patch_points", .glo "_law_right", .glo "law", .free "abs", .free "len", .free "all", .free "any", .free "tuple", .free "list", .free "sum", .free "max"]
def fcs3 : List He.Fa := [.free "min", .free "int", .free "bool", .free "str", .free "repr", .free "isinstance", .free "range", .free "zip", .free "enumerate", .free "reversed", .free "sorted", .free "dict", .free "set", .int "PAIR_numbers" 2, .glo "NOUGHT", .int "PAIR_points" 2, .str "HALF" "half", .str "DISC" "disc", .str "AND" "and", .str "OR" "or", .str "NOT" "not", .int "MOST_DEEP" 8, .int "MOST_PARTS" 30, .int "MOST_INNER" 8, .int "LEAST_CORNERS" 3, .int "MOST_CORNERS" 8, .int "PAIR_regions" 2, .int "TRIPLE" 3, .int "FOUR" 4]
def fcs : List He.Fa := fcs1 ++ (fcs2 ++ fcs3)
def tcs : List Tc := [("NOUGHT", [.int 0, .int 1])]
def dds1 : List He.DefD := [ddOf f0 (top 6), ddOf f1 (top 7), ddOf f2 (top 11), ddOf f3 (top 12), ddOf f4 (top 13), ddOf f5 (top 14), ddOf f6 (top 15), ddOf f7 (top 16), ddOf f8 (top 17), ddOf f9 (top 18), ddOf f10 (top 21), ddOf f11 (top 22), ddOf f12 (top 37), ddOf f13 (top 38), ddOf f14 (top 39), ddOf f15 (top 40), ddOf f16 (top 41), ddOf f17 (top 42)]
def dds2 : List He.DefD := [ddOf f18 (top 43), ddOf f19 (top 44), ddOf f20 (top 45), ddOf f21 (top 46), ddOf f22 (top 47), ddOf f23 (top 48), ddOf f24 (top 49), ddOf f25 (top 50), ddOf f26 (top 51), ddOf f27 (top 52), ddOf f28 (top 53), ddOf f29 (top 54), ddOf f30 (top 55), ddOf f31 (top 57), ddOf f32 (top 58), ddOf f33 (top 59), ddOf f34 (top 60), ddOf f35 (top 61)]
def dds3 : List He.DefD := [ddOf f36 (top 62), ddOf f37 (top 63), ddOf f38 (top 64), ddOf f39 (top 65), ddOf f40 (top 66), ddOf f41 (top 67), ddOf f42 (top 68), ddOf f43 (top 69), ddOf f44 (top 70), ddOf f45 (top 71), ddOf f46 (top 72), ddOf f47 (top 73), ddOf f48 (top 74), ddOf f49 (top 75), ddOf f50 (top 76), ddOf f51 (top 77), ddOf f52 (top 78), ddOf f53 (top 79)]
def dds : List He.DefD := dds1 ++ (dds2 ++ dds3)
def loose0 : List Str := ["WatchError", "BadPoint", "BadRegion", "BadPatch", "is_whole", "is_tuple", "PAIR_numbers", "NOUGHT", "common", "fraction", "whole", "is_fraction", "plus", "less", "times", "is_below", "PAIR_points", "is_point", "check_point", "HALF", "DISC", "AND", "OR", "NOT", "MOST_DEEP", "MOST_PARTS", "MOST_INNER", "LEAST_CORNERS", "MOST_CORNERS", "PAIR_regions"]
def loose1 : List Str := ["TRIPLE", "FOUR", "is_half", "is_disc", "is_part", "is_joint", "is_region", "check_region", "half_worth", "square_of", "is_in_region", "is_in", "turn", "is_ahead", "is_patch", "check_patch", "half_of", "region_of", "moved_half", "moved_by", "moved", "_law_pot", "_law_take", "_law_of", "_law_cells", "_law_common", "_law_fraction", "_law_drawn_fraction", "_law_drawn_point", "_law_drawn_region"]
def loose2 : List Str := ["_law_plus", "_law_times", "_law_minus", "_law_is_upto", "_law_square_of", "_law_is_in", "_law_sided", "_law_drawn_patch", "_law_is_in_patch", "_law_moved", "_law_half_of", "_law_patch_points", "_law_right"]
def loose : List Str := loose0 ++ loose1 ++ loose2
abbrev R : PySem.W.OpenRow := PySem.W.OpenLaw.row PySem.Challenge.rw_crossingstold_k13_whole_points_in_region
abbrev hk : PySem.W.Hook := hookV 2 fcs dds tcs
def ob (s : PySem.W.SharedT) : He.AlD := obsVG 2 fcs dds tcs (HandSHeadRun.getT s)
theorem ob_eq (s : PySem.W.SharedT) : ob s = hk.obs s.abs := obsVG_eq (HandSHeadRun.getT_eq s)
open PySem.W HandSHeadRun PySem.Calls in
theorem run_a (w : World) : ∀ os : OsState, ((HandSHeadRun.endF (stepQ (denQ tabQ) R.prog w) 3800 R.prog w os).map fun s => looksF R.prog (boot_heap w.params) s.abs) = some true := by
  intro os
  kernel_rfl
open PySem.W HandSHeadRun PySem.Calls in
theorem run_b (w : World) : ∀ os : OsState, ((HandSHeadRun.endF (stepQ (denQ tabQ) R.prog w) 3800 R.prog w os).map fun s => seenQ (view R.prog [79]) loose (importedModules R.prog.main.body) (fun s => xlAt (view R.prog [79]) [] s && recOk R.toRowW.records s) s.abs) = some (openGood (view R.prog [79]) loose) := by
  intro os
  kernel_rfl
open PySem.W HandSHeadRun PySem.Calls in
theorem run_c1 (w : World) : ∀ os : OsState, ((HandSHeadRun.endF (stepQ (denQ tabQ) R.prog w) 3800 R.prog w os).map fun s => (obsVG 2 fcs1 dds1 tcs (HandSHeadRun.getT s)).1) = some true := by
  intro os
  kernel_rfl
open PySem.W HandSHeadRun PySem.Calls in
theorem run_c2 (w : World) : ∀ os : OsState, ((HandSHeadRun.endF (stepQ (denQ tabQ) R.prog w) 3800 R.prog w os).map fun s => (obsVG 2 fcs2 dds2 [] (HandSHeadRun.getT s)).1) = some true := by
  intro os
  kernel_rfl
open PySem.W HandSHeadRun PySem.Calls in
theorem run_c3 (w : World) : ∀ os : OsState, ((HandSHeadRun.endF (stepQ (denQ tabQ) R.prog w) 3800 R.prog w os).map fun s => (obsVG 2 fcs3 dds3 [] (HandSHeadRun.getT s)).1) = some true := by
  intro os
  kernel_rfl
open PySem.W HandSHeadRun PySem.Calls in
theorem run_d1 (w : World) : ∀ os : OsState, ((HandSHeadRun.endF (stepQ (denQ tabQ) R.prog w) 3800 R.prog w os).map fun s => (obsVG 2 fcs1 dds1 tcs (HandSHeadRun.getT s)).2) = some (dds1.map He.DefD.val) := by
  intro os
  kernel_rfl
open PySem.W HandSHeadRun PySem.Calls in
theorem run_d2 (w : World) : ∀ os : OsState, ((HandSHeadRun.endF (stepQ (denQ tabQ) R.prog w) 3800 R.prog w os).map fun s => (obsVG 2 fcs2 dds2 [] (HandSHeadRun.getT s)).2) = some (dds2.map He.DefD.val) := by
  intro os
  kernel_rfl
open PySem.W HandSHeadRun PySem.Calls in
theorem run_d3 (w : World) : ∀ os : OsState, ((HandSHeadRun.endF (stepQ (denQ tabQ) R.prog w) 3800 R.prog w os).map fun s => (obsVG 2 fcs3 dds3 [] (HandSHeadRun.getT s)).2) = some (dds3.map He.DefD.val) := by
  intro os
  kernel_rfl
open PySem.W HandSHeadRun PySem.Calls in
theorem run_c (w : World) (os : OsState) : ((HandSHeadRun.endF (stepQ (denQ tabQ) R.prog w) 3800 R.prog w os).map fun s => (ob s).1) = some true := join_c (run_c1 w os) (join_c (run_c2 w os) (run_c3 w os))
open PySem.W HandSHeadRun PySem.Calls in
theorem run_d (w : World) (os : OsState) : ((HandSHeadRun.endF (stepQ (denQ tabQ) R.prog w) 3800 R.prog w os).map fun s => (ob s).2) = some (hk.val w).2 := join_d (run_d1 w os) (join_d (run_d2 w os) (run_d3 w os))
theorem run (w : World) : HandSHeadRun.RunEq R (PySem.W.view R.prog [79]) hk ob 3800 loose w := fun os => split4 (run_a w os) (run_b w os) (run_c w os) (run_d w os)
end Pv.K13

set_option Elab.async false
set_option linter.all false
set_option maxRecDepth 100000
/-! Ev: words for showing what the evaluator gives. -/
namespace Pv
open PySem

/-! ### sizes -/
def Bd (k : Nat) (i : Int) : Prop := i.natAbs < 2 ^ k
theorem Bd.mono {k l : Nat} {i : Int} (h : Bd k i) (kl : k ≤ l) : Bd l i := Nat.lt_of_lt_of_le h (Nat.pow_le_pow_right (by decide) kl)
theorem Bd.log {k : Nat} {i : Int} (h : Bd k i) : i.natAbs.log2 ≤ k := by
  unfold Bd at h
  by_cases c : i.natAbs = 0
  · rw [c]; simp
  · exact Nat.le_of_lt ((Nat.log2_lt c).mpr h)
theorem Bd.mul {k l : Nat} {i j : Int} (h : Bd k i) (q : Bd l j) : Bd (k + l) (i * j) := by
  unfold Bd at *
  rw [Int.natAbs_mul, Nat.pow_add]
  exact Nat.mul_lt_mul'' h q
theorem Bd.neg {k : Nat} {i : Int} (h : Bd k i) : Bd k (-i) := by
  unfold Bd at *
  rw [Int.natAbs_neg]; exact h
theorem Bd.add {k l m : Nat} {i j : Int} (h : Bd k i) (q : Bd l j) (e1 : k + 1 ≤ m) (e2 : l + 1 ≤ m) : Bd m (i + j) := by
  have h' : Bd (m - 1) i := h.mono (by omega)
  have q' : Bd (m - 1) j := q.mono (by omega)
  unfold Bd at *
  have e : 2 ^ m = 2 ^ (m - 1) + 2 ^ (m - 1) := by
    have : m = (m - 1) + 1 := by omega
    rw [this, Nat.pow_succ]
    simp only [Nat.add_sub_cancel]
    omega
  have := Int.natAbs_add_le i j
  omega
theorem Bd.sub {k l m : Nat} {i j : Int} (h : Bd k i) (q : Bd l j) (e1 : k + 1 ≤ m) (e2 : l + 1 ≤ m) : Bd m (i - j) := by
  rw [Int.sub_eq_add_neg]
  exact h.add q.neg e1 e2
theorem Bd.le {k : Nat} {i j : Int} (h : Bd k i) (q : j.natAbs ≤ i.natAbs) : Bd k j := Nat.lt_of_le_of_lt q h
theorem szMul_ok {k l : Nat} {i j : Int} (h : Bd k i) (q : Bd l j) (e : k + l < 1000000 := by decide) : szMul i j = true := by
  have := h.log
  have := q.log
  unfold szMul
  exact decide_eq_true (by omega)
theorem szDiv_ok {k : Nat} {j : Int} (h : j ≠ 0) (q : Bd k j) (e : k < 9000 := by decide) : szDiv j = true := by
  have := q.log
  unfold szDiv
  rw [Bool.and_eq_true]
  exact ⟨decide_eq_true h, decide_eq_true (by omega)⟩
theorem lt_most {k n : Nat} (h : n < 2 ^ k) (e : k ≤ 2000000) : n < most := by
  rw [most_eq]
  exact Nat.lt_of_lt_of_le h (Nat.pow_le_pow_right (by decide) e)

/-! ### steps -/
section
variable {P : Prg} {cf : Nat → List D → Sto → Option (D × Sto)}
theorem cf_s {k j : Nat} {ds : List D} {S : Sto} {g : Fn} (h : P.fns[j]? = some g) : callF P (k + 1) j ds S = runF P (callF P k) g ds S := by
  show (P.fns[j]?).bind _ = _
  rw [h]; rfl
@[simp] theorem deB_int (S : Sto) (i : Int) : deB S (.int i) = .int i := rfl
@[simp] theorem deB_bl (S : Sto) (i : Bool) : deB S (.bl i) = .bl i := rfl
@[simp] theorem deB_non (S : Sto) : deB S .non = .non := rfl
@[simp] theorem deB_str (S : Sto) (i : Str) : deB S (.str i) = .str i := rfl
@[simp] theorem deB_tup (S : Sto) (xs : List D) : deB S (.tup xs) = .tup xs := rfl
@[simp] theorem deB_lst (S : Sto) (xs : List D) : deB S (.lst xs) = .lst xs := rfl
@[simp] theorem deB_fz (S : Sto) (xs : List D) : deB S (.fz xs) = .fz xs := rfl
@[simp] theorem wk_int (i : Int) : wk (.int i) = .int i := rfl
@[simp] theorem wk_bl (i : Bool) : wk (.bl i) = .bl i := rfl
@[simp] theorem wk_str (i : Str) : wk (.str i) = .str i := rfl
@[simp] theorem wk_non : wk .non = .non := rfl
@[simp] theorem wk_tup (xs : List D) : wk (.tup xs) = .tup xs := rfl
@[simp] theorem wk_lst (xs : List D) : wk (.lst xs) = .lst xs := rfl
@[simp] theorem wk_fz (xs : List D) : wk (.fz xs) = .lst xs := rfl
@[simp] theorem b_add (i j : Int) : binD .Add (.int i) (.int j) = some (.int (i + j)) := rfl
@[simp] theorem b_sub (i j : Int) : binD .Sub (.int i) (.int j) = some (.int (i - j)) := rfl
theorem b_mul {i j : Int} (h : szMul i j = true) : binD .Mult (.int i) (.int j) = some (.int (i * j)) := if_pos h
theorem b_div {i j : Int} (h : szDiv j = true) : binD .FloorDiv (.int i) (.int j) = some (.int (i.fdiv j)) := if_pos h
theorem b_mod {i j : Int} (h : j ≠ 0) : binD .Mod (.int i) (.int j) = some (.int (i.fmod j)) := if_neg h
@[simp] theorem c_lt (i j : Int) : cmpD .Lt (.int i) (.int j) = some (decide (i < j)) := rfl
@[simp] theorem c_le (i j : Int) : cmpD .LtE (.int i) (.int j) = some (decide (i ≤ j)) := rfl
@[simp] theorem c_gt (i j : Int) : cmpD .Gt (.int i) (.int j) = some (decide (j < i)) := rfl
@[simp] theorem c_ge (i j : Int) : cmpD .GtE (.int i) (.int j) = some (decide (j ≤ i)) := rfl
@[simp] theorem c_eq (i j : Int) : cmpD .Eq (.int i) (.int j) = some (decide (i = j)) := rfl
@[simp] theorem c_ne (i j : Int) : cmpD .NotEq (.int i) (.int j) = some (!decide (i = j)) := rfl
@[simp] theorem c_eqs (i j : Str) : cmpD .Eq (.str i) (.str j) = some (decide (i = j)) := rfl
@[simp] theorem c_nes (i j : Str) : cmpD .NotEq (.str i) (.str j) = some (!decide (i = j)) := rfl
@[simp] theorem c_is (x : D) : cmpD .Is x .non = some (isNon x) := by cases x <;> rfl
@[simp] theorem pure_int (i : Int) : (D.int i).pure = true := rfl
@[simp] theorem pure_bl (i : Bool) : (D.bl i).pure = true := rfl
@[simp] theorem pure_str (i : Str) : (D.str i).pure = true := rfl
@[simp] theorem pure_non : D.non.pure = true := rfl
@[simp] theorem pure_tup (xs : List D) : (D.tup xs).pure = pures xs := rfl
@[simp] theorem pure_lst (xs : List D) : (D.lst xs).pure = pures xs := rfl
@[simp] theorem pures_nil : pures [] = true := rfl
@[simp] theorem pures_cons (x : D) (xs : List D) : pures (x :: xs) = (x.pure && pures xs) := rfl

/-! a def's end -/
theorem endF_rt {n : Nat} {d : D} {S : Sto} (h : d.pure = true) : endF n (some (.rt d, S)) = some (d, S.take n) := by
  show (if d.pure = true then _ else _) = _
  rw [if_pos h]
theorem endF_nx {n : Nat} {r : Rho} {S : Sto} : endF n (some (.nx r, S)) = some (.non, S.take n) := rfl
theorem take_self (S : Sto) : S.take S.length = S := List.take_length

/-! loops -/
theorem whl_ind {c : Rho → Sto → Option (D × Sto)} {b : Rho → Sto → Option (Out × Sto)} (I : Rho → Sto → Prop) (m : Rho → Sto → Nat)
    (st : ∀ r S, I r S → c r S = some (.bl false, S) ∨ (c r S = some (.bl true, S) ∧ ∃ r1 S1, b r S = some (.nx r1, S1) ∧ I r1 S1 ∧ m r1 S1 < m r S)) :
    ∀ (n : Nat) (r : Rho) (S : Sto), I r S → m r S < n → ∃ r1 S1, whl c b n r S = some (.nx r1, S1) ∧ I r1 S1 ∧ c r1 S1 = some (.bl false, S1)
  | 0, r, S, _, h => absurd h (Nat.not_lt_zero _)
  | n + 1, r, S, i, h => by
    rcases st r S i with e | ⟨e, r1, S1, e1, i1, h1⟩
    · exact ⟨r, S, by rw [whl, e]; rfl, i, e⟩
    · obtain ⟨r2, S2, e2, i2, f2⟩ := whl_ind I m st n r1 S1 i1 (by omega)
      refine ⟨r2, S2, ?_, i2, f2⟩
      rw [whl, e]
      show (b r S).bind _ = _
      rw [e1]
      exact e2
end

theorem bits_le (i : Int) : Builtin.Int.intBits i ≤ i.natAbs.log2 + 1 := by
  unfold Builtin.Int.intBits
  split <;> omega
/-! ### the greatest common divisor by remainders -/
theorem gcd_fmod {a b : Int} : Int.gcd b (a.fmod b) = Int.gcd a b := by
  have e : a.fmod b = a + b * (-(a.fdiv b)) := by
    have := Int.mul_fdiv_add_fmod a b
    rw [Int.mul_neg]
    omega
  rw [e, Int.gcd_add_mul_left_right, Int.gcd_comm]
end Pv

set_option Elab.async false
set_option linter.all false
set_option maxRecDepth 100000
/-! Ev2: the evaluator as a machine: what follows a part stands as a named word, so that simp computes along the text and never beneath a binder. -/
namespace Pv
open PySem

noncomputable section
variable (P : Prg) (cf : Nat → List D → Sto → Option (D × Sto))
abbrev Rs := Option (D × Sto)
abbrev Ro := Option (Out × Sto)
def kv (S : Sto) (d : D) : D × Sto := (d, S)
def kb (S : Sto) (d : Bool) : D × Sto := (.bl d, S)
def kVar (S : Sto) : Option Slot → Rs
  | some (some (false, d)) => some (d, S)
  | _ => none
def kBor (S : Sto) : Option Slot → Rs
  | some (some (_, d)) => some (d, S)
  | _ => none
def kGlb (S : Sto) (p : Str × D) : D × Sto := (p.2, S)
def kBin2 (op : Operator) (d : D) (q : D × Sto) : Rs := (binD op (deB q.2 d) (deB q.2 q.1)).map (kv q.2)
def kBin (op : Operator) (b : E) (r : Rho) (p : D × Sto) : Rs := (evE P cf b r p.2).bind (kBin2 op p.1)
def kNeg (p : D × Sto) : Rs := match p.1 with
    | .int i => some (.int (-i), p.2)
    | _ => none
def kNot (p : D × Sto) : Rs := match p.1 with
    | .bl b => some (.bl (!b), p.2)
    | _ => none
def kAnd (b : E) (r : Rho) (p : D × Sto) : Rs := match p.1 with
    | .bl true => evE P cf b r p.2
    | .bl false => some (.bl false, p.2)
    | _ => none
def kOr (b : E) (r : Rho) (p : D × Sto) : Rs := match p.1 with
    | .bl true => some (.bl true, p.2)
    | .bl false => evE P cf b r p.2
    | _ => none
def kCmp2 (op : CmpOp) (d : D) (q : D × Sto) : Rs := (cmpD op (deB q.2 d) (deB q.2 q.1)).map (kb q.2)
def kCmp (op : CmpOp) (b : E) (r : Rho) (p : D × Sto) : Rs := (evE P cf b r p.2).bind (kCmp2 op p.1)
def kIte (a b : E) (r : Rho) (p : D × Sto) : Rs := match p.1 with
    | .bl true => evE P cf a r p.2
    | .bl false => evE P cf b r p.2
    | _ => none
def kTup (p : List D × Sto) : Rs := if p.1.length ≤ 100000 then some (.tup p.1, p.2) else none
def kLst (p : List D × Sto) : Rs := if p.1.length ≤ 100000 then some (.lst p.1, p.2) else none
def kBox (p : List D × Sto) : Rs := if pures p.1 && decide (p.1.length ≤ 100000) then some (.ref p.2.length, p.2 ++ [p.1]) else none
def kIdx2 (d : D) (q : D × Sto) : Rs := (idxD (wk (deB q.2 d)) q.1).map (kv q.2)
def kIdx (i : E) (r : Rho) (p : D × Sto) : Rs := (evE P cf i r p.2).bind (kIdx2 p.1)
def kSlc3 (d : D) (q : Option Int × Sto) (q2 : Option Int × Sto) : Rs := (slcD (wk (deB q2.2 d)) q.1 q2.1).map (kv q2.2)
def kSlc2 (d : D) (hi : Option E) (r : Rho) (q : Option Int × Sto) : Rs := (evO P cf hi r q.2).bind (kSlc3 d q)
def kSlc (lo hi : Option E) (r : Rho) (p : D × Sto) : Rs := (evO P cf lo r p.2).bind (kSlc2 P cf p.1 hi r)
def kRev (p : D × Sto) : Rs := (revD (deB p.2 p.1)).map (kv p.2)
def kCall (f : Nat) (p : List D × Sto) : Rs := cf f p.1 p.2
def kCk4 (f : Nat) (S : Sto) (ds : List D) : Rs := cf f ds S
def kCk3 (w : Kwf) (p p2 : List D × Sto) : Rs := if p.1.length = w.n ∧ p2.1.length = w.ks.length then (pick w.perm (p.1 ++ p2.1)).bind (kCk4 cf w.f p2.2) else none
def kCk2 (w : Kwf) (ks : List E) (r : Rho) (p : List D × Sto) : Rs := (evEs P cf ks r p.2).bind (kCk3 cf w p)
def kCk (es ks : List E) (r : Rho) (S : Sto) (w : Kwf) : Rs := (evEs P cf es r S).bind (kCk2 P cf w ks r)
def kCv (es : List E) (r : Rho) (p : D × Sto) : Rs := match p.1 with
    | .fn j => (evEs P cf es r p.2).bind (kCall cf j)
    | _ => none
def wds (S : Sto) : List D → List D
  | [] => []
  | d :: ds => wk (deB S d) :: wds S ds
theorem wds_eq (S : Sto) : ∀ ds : List D, ds.map (fun d => wk (deB S d)) = wds S ds
  | [] => rfl
  | d :: ds => by rw [List.map_cons, wds_eq S ds]; rfl
def kBi (b : Bi) (p : List D × Sto) : Rs := (biD b (wds p.2 p.1)).map (kv p.2)
def kBits (p : D × Sto) : Rs := match p.1 with
    | .int i => some (.int (Builtin.Int.intBits i : Nat), p.2)
    | _ => none
def kC4 (p : D × Sto) : Option D × Sto := (some p.1, p.2)
def kC3 (elt : E) (r : Rho) (b : Bool × Sto) : Option (Option D × Sto) := if b.1 then (evE P cf elt r b.2).map kC4 else some (none, b.2)
def kC2 (ifs : List E) (elt : E) (S : Sto) (r : Rho) : Option (Option D × Sto) := (evIfs P cf ifs r S).bind (kC3 P cf elt r)
/-- one turn of a comprehension -/
def cmpB (own : List Nat) (tg : Tg) (ifs : List E) (elt : E) (r : Rho) (x : D) (S : Sto) : Option (Option D × Sto) := (asg tg x (wipeR r own)).bind (kC2 P cf ifs elt S)
def kL (q : List D × Sto) : D × Sto := (.lst q.1, q.2)
def kCm2 (own : List Nat) (tg : Tg) (ifs : List E) (elt : E) (r : Rho) (S : Sto) (xs : List D) : Rs := if xs.length < 100000 then (compL (cmpB P cf own tg ifs elt r) xs S).map kL else none
def kCm (own : List Nat) (tg : Tg) (ifs : List E) (elt : E) (r : Rho) (p : D × Sto) : Rs := (itemsD (wk p.1)).bind (kCm2 P cf own tg ifs elt r p.2)
def kRng2 (S : Sto) (xs : List D) : D × Sto := (.lst xs, S)
def kRng (p : List D × Sto) : Rs := (rngD p.1).map (kRng2 p.2)
def kZip2 (d : D) (q : D × Sto) : Rs := match wk d, wk q.1 with
    | .lst xs, .lst ys => some (.lst (zipL xs ys), q.2)
    | .tup xs, .tup ys => some (.lst (zipL xs ys), q.2)
    | .tup xs, .lst ys => some (.lst (zipL xs ys), q.2)
    | _, _ => none
def kZip (b : E) (r : Rho) (p : D × Sto) : Rs := (evE P cf b r p.2).bind (kZip2 p.1)
def kLz2 (d : D) (q : D × Sto) : Rs := match d, q.1 with
    | .tup xs, .tup ys => some (.lst (zipL xs ys), q.2)
    | _, _ => none
def kLz (b : E) (r : Rho) (p : D × Sto) : Rs := (evE P cf b r p.2).bind (kLz2 p.1)
def kEnu (p : D × Sto) : Rs := match wk p.1 with
    | .lst xs => some (.lst (enuL 0 xs), p.2)
    | .tup xs => some (.lst (enuL 0 xs), p.2)
    | _ => none
def kDl (i : Nat) (r : Rho) (p : D × Sto) : Rs := if i < r.length then (itemsD (wk p.1)).bind (dlenD p.2) else none
def kCh4 (q1 q2 : D × Sto) (d2 : Bool) : D × Sto := (.bl d2, q2.2)
def kCh3 (op2 : CmpOp) (q q2 : D × Sto) : Rs := (cmpD op2 q.1 q2.1).map (kCh4 q q2)
def kCh2 (op2 : CmpOp) (c : E) (r : Rho) (q : D × Sto) (d : Bool) : Rs := if d then (evE P cf c r q.2).bind (kCh3 op2 q) else some (.bl false, q.2)
def kCh1 (op op2 : CmpOp) (c : E) (r : Rho) (p q : D × Sto) : Rs := (cmpD op p.1 q.1).bind (kCh2 P cf op2 c r q)
def kCh (op op2 : CmpOp) (b c : E) (r : Rho) (p : D × Sto) : Rs := (evE P cf b r p.2).bind (kCh1 P cf op op2 c r p)
def kCons (d : D) (q : List D × Sto) : List D × Sto := (d :: q.1, q.2)
def kEs (es : List E) (r : Rho) (p : D × Sto) : Option (List D × Sto) := (evEs P cf es r p.2).map (kCons p.1)
def kApp (xs : List D) (q : List D × Sto) : List D × Sto := (xs ++ q.1, q.2)
def kSt2 (es : List E) (r : Rho) (S : Sto) (xs : List D) : Option (List D × Sto) := (evEs P cf es r S).map (kApp xs)
def kSt (es : List E) (r : Rho) (p : D × Sto) : Option (List D × Sto) := (itemsD (wk (deB p.2 p.1))).bind (kSt2 P cf es r p.2)
def kIfs (es : List E) (r : Rho) (p : D × Sto) : Option (Bool × Sto) := match p.1 with
    | .bl true => evIfs P cf es r p.2
    | .bl false => some (false, p.2)
    | _ => none
def kO (p : D × Sto) : Option (Option Int × Sto) := match p.1 with
    | .int i => some (some i, p.2)
    | _ => none
def isStar : E → Bool
  | .star _ => true
  | _ => false
/-! statements -/
def kSet (i : Nat) (r : Rho) (p : D × Sto) : Ro := if i < r.length then some (.nx (r.set i (some (false, p.1))), p.2) else none
def kOwn (i : Nat) (r : Rho) (p : D × Sto) : Ro := match p.1 with
    | .lst ds => if i < r.length then some (.nx (r.set i (some (true, .lst ds))), p.2) else none
    | _ => none
def kNx (S : Sto) (r : Rho) : Out × Sto := (.nx r, S)
def kUnp (tg : Tg) (r : Rho) (p : D × Sto) : Ro := (asg tg p.1 r).map (kNx p.2)
def kPar (is : List Nat) (r : Rho) (p : List D × Sto) : Ro := (setAll r is p.1).map (kNx p.2)
def kPut4 (r : Rho) (n : Nat) (ds : List D) (p : D × Sto) (S : Sto) (j : Nat) : Ro := if p.1.pure then some (.nx r, S.set n (ds.set j p.1)) else none
def kPut3 (r : Rho) (n : Nat) (k : Int) (p : D × Sto) (S : Sto) (ds : List D) : Ro := (L2.ixN ds.length k).bind (kPut4 r n ds p S)
def kPut2 (r : Rho) (p q q2 : D × Sto) : Ro := match q.1, q2.1 with
    | .ref n, .int k => (q2.2[n]?).bind (kPut3 r n k p q2.2)
    | _, _ => none
def kPut1 (i : E) (r : Rho) (p q : D × Sto) : Ro := (evE P cf i r q.2).bind (kPut2 r p q)
def kPut (a i : E) (r : Rho) (p : D × Sto) : Ro := (evE P cf a r p.2).bind (kPut1 P cf i r p)
def kAug2 (i : Nat) (op : Operator) (d : D) (r : Rho) (p : D × Sto) : Ro := match op, d, p.1 with
      | .Add, .int a, .int b => some (.nx (r.set i (some (false, .int (a + b)))), p.2)
      | .Sub, .int a, .int b => some (.nx (r.set i (some (false, .int (a - b)))), p.2)
      | _, _, _ => none
def kAug (i : Nat) (op : Operator) (e : E) (r : Rho) (S : Sto) : Option Slot → Ro
    | some (some (false, d)) => (evE P cf e r S).bind (kAug2 i op d r)
    | _ => none
def kExp (r : Rho) (p : D × Sto) : Out × Sto := (.nx r, p.2)
def kAppd (i : Nat) (r : Rho) (p : D × Sto) : Option Slot → Ro
    | some (some (true, .lst ds)) => if ds.length < 100000 then some (.nx (r.set i (some (true, .lst (ds ++ [p.1])))), p.2) else none
    | _ => none
def kAppe (i : Nat) (r : Rho) (p : D × Sto) : Ro := kAppd i r p r[i]?
def kIf (a b : List C) (r : Rho) (p : D × Sto) : Ro := match p.1 with
    | .bl true => exB P cf a r p.2
    | .bl false => exB P cf b r p.2
    | _ => none
def cW (c : E) (r : Rho) (S : Sto) : Rs := evE P cf c r S
def bW (b : List C) (r : Rho) (S : Sto) : Ro := exB P cf b r S
def kFor2 (tg : Tg) (b : List C) (r : Rho) (S : Sto) (xs : List D) : Ro := forL tg (bW P cf b) xs r S
def kFor (tg : Tg) (b : List C) (r : Rho) (p : D × Sto) : Ro := (itemsD (wk p.1)).bind (kFor2 P cf tg b r p.2)
def kRt (p : D × Sto) : Out × Sto := (.rt p.1, p.2)
def kSeq (cs : List C) (q : Out × Sto) : Ro := match q.1 with
      | .nx r1 => exB P cf cs r1 q.2
      | .ct r1 => some (.ct r1, q.2)
      | .bk r1 => some (.bk r1, q.2)
      | .rt d => some (.rt d, q.2)
def kF2 (tg : Tg) (b : Rho → Sto → Ro) (xs : List D) (q : Out × Sto) : Ro := match q.1 with
      | .nx r1 => forL tg b xs r1 q.2
      | .ct r1 => forL tg b xs r1 q.2
      | .bk r1 => some (.nx r1, q.2)
      | .rt d => some (.rt d, q.2)
def kF1 (tg : Tg) (b : Rho → Sto → Ro) (xs : List D) (S : Sto) (r : Rho) : Ro := (b r S).bind (kF2 tg b xs)
end

section
variable {P : Prg} {cf : Nat → List D → Sto → Option (D × Sto)} {r : Rho} {S : Sto} {a b c e : E} {es ks : List E} {i j k n : Nat} {d : D} {ds : List D} {op op2 : Operator}
@[simp] theorem kv_s : kv S d = (d, S) := rfl
@[simp] theorem kb_s {t : Bool} : kb S t = (.bl t, S) := rfl
@[simp] theorem x_cst : evE P cf (.cst d) r S = some (d, S) := by rw [evE]
@[simp] theorem x_var : evE P cf (.var i) r S = kVar S r[i]? := by rw [evE]; rfl
@[simp] theorem kVar_s : kVar S (some (some (false, d))) = some (d, S) := rfl
@[simp] theorem x_bor : evE P cf (.bor i) r S = kBor S r[i]? := by rw [evE]; rfl
@[simp] theorem kBor_s {o : Bool} : kBor S (some (some (o, d))) = some (d, S) := rfl
@[simp] theorem x_glb : evE P cf (.glb j) r S = (P.csts[j]?).map (kGlb S) := by rw [evE]; rfl
@[simp] theorem kGlb_s {x : Str} : kGlb S (x, d) = (d, S) := rfl
@[simp] theorem x_fnv : evE P cf (.fnv j) r S = some (.fn j, S) := by rw [evE]
@[simp] theorem x_bin : evE P cf (.bin op a b) r S = (evE P cf a r S).bind (kBin P cf op b r) := by rw [evE]; rfl
@[simp] theorem kBin_s : kBin P cf op b r (d, S) = (evE P cf b r S).bind (kBin2 op d) := rfl
@[simp] theorem kBin2_s {d2 : D} : kBin2 op d (d2, S) = (binD op (deB S d) (deB S d2)).map (kv S) := rfl
@[simp] theorem x_neg : evE P cf (.neg a) r S = (evE P cf a r S).bind kNeg := by rw [evE]; rfl
@[simp] theorem kNeg_s {t : Int} : kNeg (.int t, S) = some (.int (-t), S) := rfl
@[simp] theorem x_not : evE P cf (.not a) r S = (evE P cf a r S).bind kNot := by rw [evE]; rfl
@[simp] theorem kNot_s {t : Bool} : kNot (.bl t, S) = some (.bl (!t), S) := rfl
@[simp] theorem x_and : evE P cf (.and a b) r S = (evE P cf a r S).bind (kAnd P cf b r) := by rw [evE]; rfl
@[simp] theorem kAnd_t : kAnd P cf b r (.bl true, S) = evE P cf b r S := rfl
@[simp] theorem kAnd_f : kAnd P cf b r (.bl false, S) = some (.bl false, S) := rfl
@[simp] theorem x_or : evE P cf (.or a b) r S = (evE P cf a r S).bind (kOr P cf b r) := by rw [evE]; rfl
@[simp] theorem kOr_t : kOr P cf b r (.bl true, S) = some (.bl true, S) := rfl
@[simp] theorem kOr_f : kOr P cf b r (.bl false, S) = evE P cf b r S := rfl
@[simp] theorem x_cmp {o : CmpOp} : evE P cf (.cmp o a b) r S = (evE P cf a r S).bind (kCmp P cf o b r) := by rw [evE]; rfl
@[simp] theorem kCmp_s {o : CmpOp} : kCmp P cf o b r (d, S) = (evE P cf b r S).bind (kCmp2 o d) := rfl
@[simp] theorem kCmp2_s {o : CmpOp} {d2 : D} : kCmp2 o d (d2, S) = (cmpD o (deB S d) (deB S d2)).map (kb S) := rfl
@[simp] theorem x_chn {o o2 : CmpOp} : evE P cf (.chn o o2 a b c) r S = (evE P cf a r S).bind (kCh P cf o o2 b c r) := by rw [evE]; rfl
@[simp] theorem kCh_s {o o2 : CmpOp} {p : D × Sto} : kCh P cf o o2 b c r p = (evE P cf b r p.2).bind (kCh1 P cf o o2 c r p) := rfl
@[simp] theorem kCh1_s {o o2 : CmpOp} {p q : D × Sto} : kCh1 P cf o o2 c r p q = (cmpD o p.1 q.1).bind (kCh2 P cf o2 c r q) := rfl
@[simp] theorem kCh2_t {o2 : CmpOp} {q : D × Sto} : kCh2 P cf o2 c r q true = (evE P cf c r q.2).bind (kCh3 o2 q) := rfl
@[simp] theorem kCh2_f {o2 : CmpOp} {q : D × Sto} : kCh2 P cf o2 c r q false = some (.bl false, q.2) := rfl
@[simp] theorem kCh3_s {o2 : CmpOp} {q q2 : D × Sto} : kCh3 o2 q q2 = (cmpD o2 q.1 q2.1).map (kCh4 q q2) := rfl
@[simp] theorem kCh4_s {q q2 : D × Sto} {t : Bool} : kCh4 q q2 t = (.bl t, q2.2) := rfl
@[simp] theorem x_ite : evE P cf (.ite c a b) r S = (evE P cf c r S).bind (kIte P cf a b r) := by rw [evE]; rfl
@[simp] theorem kIte_t : kIte P cf a b r (.bl true, S) = evE P cf a r S := rfl
@[simp] theorem kIte_f : kIte P cf a b r (.bl false, S) = evE P cf b r S := rfl
@[simp] theorem x_tup : evE P cf (.tup es) r S = (evEs P cf es r S).bind kTup := by rw [evE]; rfl
@[simp] theorem kTup_s : kTup (ds, S) = if ds.length ≤ 100000 then some (.tup ds, S) else none := rfl
@[simp] theorem x_lst : evE P cf (.lst es) r S = (evEs P cf es r S).bind kLst := by rw [evE]; rfl
@[simp] theorem kLst_s : kLst (ds, S) = if ds.length ≤ 100000 then some (.lst ds, S) else none := rfl
@[simp] theorem x_box : evE P cf (.box es) r S = (evEs P cf es r S).bind kBox := by rw [evE]; rfl
@[simp] theorem kBox_s : kBox (ds, S) = if pures ds && decide (ds.length ≤ 100000) then some (.ref S.length, S ++ [ds]) else none := rfl
@[simp] theorem x_idx : evE P cf (.idx a b) r S = (evE P cf a r S).bind (kIdx P cf b r) := by rw [evE]; rfl
@[simp] theorem kIdx_s : kIdx P cf b r (d, S) = (evE P cf b r S).bind (kIdx2 d) := rfl
@[simp] theorem kIdx2_s {d2 : D} : kIdx2 d (d2, S) = (idxD (wk (deB S d)) d2).map (kv S) := rfl
@[simp] theorem x_slc {lo hi : Option E} : evE P cf (.slc a lo hi) r S = (evE P cf a r S).bind (kSlc P cf lo hi r) := by rw [evE]; rfl
@[simp] theorem kSlc_s {lo hi : Option E} : kSlc P cf lo hi r (d, S) = (evO P cf lo r S).bind (kSlc2 P cf d hi r) := rfl
@[simp] theorem kSlc2_s {hi : Option E} {q : Option Int × Sto} : kSlc2 P cf d hi r q = (evO P cf hi r q.2).bind (kSlc3 d q) := rfl
@[simp] theorem kSlc3_s {q q2 : Option Int × Sto} : kSlc3 d q q2 = (slcD (wk (deB q2.2 d)) q.1 q2.1).map (kv q2.2) := rfl
@[simp] theorem x_rev : evE P cf (.rev a) r S = (evE P cf a r S).bind kRev := by rw [evE]; rfl
@[simp] theorem kRev_s : kRev (d, S) = (revD (deB S d)).map (kv S) := rfl
@[simp] theorem x_call : evE P cf (.call j es) r S = (evEs P cf es r S).bind (kCall cf j) := by rw [evE]; rfl
@[simp] theorem kCall_s : kCall cf j (ds, S) = cf j ds S := rfl
@[simp] theorem x_callk : evE P cf (.callk j es ks) r S = (P.kws[j]?).bind (kCk P cf es ks r S) := by rw [evE]; rfl
@[simp] theorem kCk_s {w : Kwf} : kCk P cf es ks r S w = (evEs P cf es r S).bind (kCk2 P cf w ks r) := rfl
@[simp] theorem kCk2_s {w : Kwf} {p : List D × Sto} : kCk2 P cf w ks r p = (evEs P cf ks r p.2).bind (kCk3 cf w p) := rfl
@[simp] theorem kCk3_s {w : Kwf} {p p2 : List D × Sto} : kCk3 cf w p p2 = if p.1.length = w.n ∧ p2.1.length = w.ks.length then (pick w.perm (p.1 ++ p2.1)).bind (kCk4 cf w.f p2.2) else none := rfl
@[simp] theorem kCk4_s : kCk4 cf j S ds = cf j ds S := rfl
@[simp] theorem pick_nil {xs : List D} : pick [] xs = some [] := rfl
@[simp] theorem pick_cons {xs : List D} {ns : List Nat} : pick (n :: ns) xs = (xs[n]?).bind fun x => (pick ns xs).map fun r => x :: r := rfl
@[simp] theorem x_callv : evE P cf (.callv a es) r S = (evE P cf a r S).bind (kCv P cf es r) := by rw [evE]; rfl
@[simp] theorem kCv_s : kCv P cf es r (.fn j, S) = (evEs P cf es r S).bind (kCall cf j) := rfl
@[simp] theorem x_bi {w : Bi} : evE P cf (.bi w es) r S = (evEs P cf es r S).bind (kBi w) := by
  rw [evE]
  refine congrArg _ (funext fun p => ?_)
  unfold kBi
  rw [wds_eq]
  rfl
@[simp] theorem kBi_s {w : Bi} : kBi w (ds, S) = (biD w (wds S ds)).map (kv S) := rfl
@[simp] theorem wds_nil : wds S [] = [] := rfl
@[simp] theorem wds_cons : wds S (d :: ds) = wk (deB S d) :: wds S ds := rfl
@[simp] theorem x_bits : evE P cf (.bits a) r S = (evE P cf a r S).bind kBits := by rw [evE]; rfl
@[simp] theorem kBits_s {t : Int} : kBits (.int t, S) = some (.int (Builtin.Int.intBits t : Nat), S) := rfl
@[simp] theorem x_cmpr {own : List Nat} {tg : Tg} {ifs : List E} : evE P cf (.cmpr own tg a ifs b) r S = (evE P cf a r S).bind (kCm P cf own tg ifs b r) := by rw [evE]; rfl
@[simp] theorem kCm_s {own : List Nat} {tg : Tg} {ifs : List E} : kCm P cf own tg ifs b r (d, S) = (itemsD (wk d)).bind (kCm2 P cf own tg ifs b r S) := rfl
@[simp] theorem kCm2_s {own : List Nat} {tg : Tg} {ifs : List E} {xs : List D} : kCm2 P cf own tg ifs b r S xs = if xs.length < 100000 then (compL (cmpB P cf own tg ifs b r) xs S).map kL else none := rfl
@[simp] theorem kL_s : kL (ds, S) = (.lst ds, S) := rfl
@[simp] theorem isStar_1 {d : D} : isStar (.cst d) = false := rfl
@[simp] theorem isStar_2 : isStar (.var i) = false := rfl
@[simp] theorem isStar_3 : isStar (.bor i) = false := rfl
@[simp] theorem isStar_4 : isStar (.glb i) = false := rfl
@[simp] theorem isStar_5 : isStar (.fnv i) = false := rfl
@[simp] theorem isStar_6 : isStar (.bin op a b) = false := rfl
@[simp] theorem isStar_7 : isStar (.neg a) = false := rfl
@[simp] theorem isStar_8 : isStar (.not a) = false := rfl
@[simp] theorem isStar_9 : isStar (.and a b) = false := rfl
@[simp] theorem isStar_10 : isStar (.or a b) = false := rfl
@[simp] theorem isStar_11 {o : CmpOp} : isStar (.cmp o a b) = false := rfl
@[simp] theorem isStar_12 {o o2 : CmpOp} : isStar (.chn o o2 a b c) = false := rfl
@[simp] theorem isStar_13 : isStar (.ite a b c) = false := rfl
@[simp] theorem isStar_14 : isStar (.tup es) = false := rfl
@[simp] theorem isStar_15 : isStar (.lst es) = false := rfl
@[simp] theorem isStar_16 : isStar (.box es) = false := rfl
@[simp] theorem isStar_17 : isStar (.idx a b) = false := rfl
@[simp] theorem isStar_18 {lo hi : Option E} : isStar (.slc a lo hi) = false := rfl
@[simp] theorem isStar_19 : isStar (.rev a) = false := rfl
@[simp] theorem isStar_20 : isStar (.call i es) = false := rfl
@[simp] theorem isStar_21 : isStar (.callk i es ks) = false := rfl
@[simp] theorem isStar_22 : isStar (.callv a es) = false := rfl
@[simp] theorem isStar_23 {w : Bi} : isStar (.bi w es) = false := rfl
@[simp] theorem isStar_24 : isStar (.bits a) = false := rfl
@[simp] theorem isStar_25 {own : List Nat} {tg : Tg} : isStar (.cmpr own tg a es b) = false := rfl
@[simp] theorem isStar_26 : isStar (.rng es) = false := rfl
@[simp] theorem isStar_27 : isStar (.zip a b) = false := rfl
@[simp] theorem isStar_28 : isStar (.enu a) = false := rfl
@[simp] theorem isStar_29 : isStar (.dlen i a) = false := rfl
@[simp] theorem isStar_30 : isStar (.lzip a b) = false := rfl
theorem compL_cons {f : D → Sto → Option (Option D × Sto)} {x y : D} {xs ys : List D} {S1 S2 : Sto} (h1 : f x S = some (some y, S1)) (h2 : compL f xs S1 = some (ys, S2)) : compL f (x :: xs) S = some (y :: ys, S2) := by
  simp only [compL, h1, Option.bind_some, h2, Option.map_some]
def kK3 (o : Option D) (q : List D × Sto) : List D × Sto := (match o with | some y => y :: q.1 | none => q.1, q.2)
def kK (f : D → Sto → Option (Option D × Sto)) (xs : List D) (p : Option D × Sto) : Option (List D × Sto) := (compL f xs p.2).map (kK3 p.1)
@[simp] theorem compL_n {f : D → Sto → Option (Option D × Sto)} : compL f [] S = some ([], S) := rfl
@[simp] theorem compL_c {f : D → Sto → Option (Option D × Sto)} {x : D} {xs : List D} : compL f (x :: xs) S = (f x S).bind (kK f xs) := rfl
@[simp] theorem kK_s {f : D → Sto → Option (Option D × Sto)} {o : Option D} {xs : List D} : kK f xs (o, S) = (compL f xs S).map (kK3 o) := rfl
@[simp] theorem kK3_s : kK3 (some d) (ds, S) = (d :: ds, S) := rfl
@[simp] theorem kK3_n : kK3 none (ds, S) = (ds, S) := rfl
@[simp] theorem cmpB_s {own : List Nat} {tg : Tg} {ifs : List E} : cmpB P cf own tg ifs b r d S = (asg tg d (wipeR r own)).bind (kC2 P cf ifs b S) := rfl
@[simp] theorem kC2_s {ifs : List E} : kC2 P cf ifs b S r = (evIfs P cf ifs r S).bind (kC3 P cf b r) := rfl
@[simp] theorem kC3_t : kC3 P cf b r (true, S) = (evE P cf b r S).map kC4 := rfl
@[simp] theorem kC3_f : kC3 P cf b r (false, S) = some (none, S) := rfl
@[simp] theorem kC4_s : kC4 (d, S) = (some d, S) := rfl
@[simp] theorem x_ifs_n : evIfs P cf [] r S = some (true, S) := by rw [evIfs]
@[simp] theorem x_ifs_c : evIfs P cf (e :: es) r S = (evE P cf e r S).bind (kIfs P cf es r) := by rw [evIfs]; rfl
@[simp] theorem kIfs_t : kIfs P cf es r (.bl true, S) = evIfs P cf es r S := rfl
@[simp] theorem kIfs_f : kIfs P cf es r (.bl false, S) = some (false, S) := rfl
@[simp] theorem x_rng : evE P cf (.rng es) r S = (evEs P cf es r S).bind kRng := by rw [evE]; rfl
@[simp] theorem kRng_s : kRng (ds, S) = (rngD ds).map (kRng2 S) := rfl
@[simp] theorem kRng2_s : kRng2 S ds = (.lst ds, S) := rfl
@[simp] theorem x_zip : evE P cf (.zip a b) r S = (evE P cf a r S).bind (kZip P cf b r) := by rw [evE]; rfl
@[simp] theorem kZip_s : kZip P cf b r (d, S) = (evE P cf b r S).bind (kZip2 d) := rfl
@[simp] theorem kZip2_l {xs ys : List D} : kZip2 (.lst xs) (.lst ys, S) = some (.lst (zipL xs ys), S) := rfl
@[simp] theorem kZip2_m {xs ys : List D} : kZip2 (.tup xs) (.lst ys, S) = some (.lst (zipL xs ys), S) := rfl
@[simp] theorem kZip2_t {xs ys : List D} : kZip2 (.tup xs) (.tup ys, S) = some (.lst (zipL xs ys), S) := rfl
@[simp] theorem x_enu : evE P cf (.enu a) r S = (evE P cf a r S).bind kEnu := by rw [evE]; rfl
@[simp] theorem kEnu_s {xs : List D} : kEnu (.lst xs, S) = some (.lst (enuL 0 xs), S) := rfl
@[simp] theorem kEnu_t {xs : List D} : kEnu (.tup xs, S) = some (.lst (enuL 0 xs), S) := rfl
@[simp] theorem x_lzip : evE P cf (.lzip a b) r S = (evE P cf a r S).bind (kLz P cf b r) := by rw [evE]; rfl
@[simp] theorem kLz_s : kLz P cf b r (d, S) = (evE P cf b r S).bind (kLz2 d) := rfl
@[simp] theorem kLz2_t {xs ys : List D} : kLz2 (.tup xs) (.tup ys, S) = some (.lst (zipL xs ys), S) := rfl
@[simp] theorem x_dlen : evE P cf (.dlen i a) r S = (evE P cf a r S).bind (kDl i r) := by rw [evE]; rfl
@[simp] theorem kDl_s : kDl i r (d, S) = if i < r.length then (itemsD (wk d)).bind (dlenD S) else none := rfl
@[simp] theorem x_es_n : evEs P cf [] r S = some ([], S) := by rw [evEs]
noncomputable def kE0 (P : Prg) (cf : Nat → List D → Sto → Option (D × Sto)) (es : List E) (r : Rho) (S : Sto) : E → Option (List D × Sto)
  | .star x => (evE P cf x r S).bind (kSt P cf es r)
  | e => (evE P cf e r S).bind (kEs P cf es r)
noncomputable def kE1 (P : Prg) (cf : Nat → List D → Sto → Option (D × Sto)) (e : E) (es : List E) (r : Rho) (S : Sto) : Bool → Option (List D × Sto)
  | true => kE0 P cf es r S e
  | false => (evE P cf e r S).bind (kEs P cf es r)
@[simp] theorem x_es_c : evEs P cf (e :: es) r S = kE1 P cf e es r S (isStar e) := by
  cases h : isStar e with
  | true =>
    cases e with
    | star x => rw [evEs]; rfl
    | _ => cases h
  | false =>
    rw [evEs]
    · rfl
    · rintro x rfl
      cases h
@[simp] theorem kE1_f : kE1 P cf e es r S false = (evE P cf e r S).bind (kEs P cf es r) := rfl
@[simp] theorem kE1_t : kE1 P cf (.star e) es r S true = (evE P cf e r S).bind (kSt P cf es r) := rfl
@[simp] theorem isStar_0 : isStar (.star e) = true := rfl
@[simp] theorem kEs_s : kEs P cf es r (d, S) = (evEs P cf es r S).map (kCons d) := rfl
@[simp] theorem kCons_s : kCons d (ds, S) = (d :: ds, S) := rfl
@[simp] theorem kSt_s : kSt P cf es r (d, S) = (itemsD (wk (deB S d))).bind (kSt2 P cf es r S) := rfl
@[simp] theorem kSt2_s {xs : List D} : kSt2 P cf es r S xs = (evEs P cf es r S).map (kApp xs) := rfl
@[simp] theorem kApp_s {xs : List D} : kApp xs (ds, S) = (xs ++ ds, S) := rfl
@[simp] theorem x_o_n : evO P cf none r S = some (none, S) := by rw [evO]
@[simp] theorem x_o_s : evO P cf (some e) r S = (evE P cf e r S).bind kO := by rw [evO]; rfl
@[simp] theorem kO_s {t : Int} : kO (.int t, S) = some (some t, S) := rfl
/-! statements -/
variable {tg : Tg} {cs us vs : List C} {st : C} {is : List Nat}
@[simp] theorem y_set : exS P cf (.set i e) r S = (evE P cf e r S).bind (kSet i r) := by rw [exS]; rfl
@[simp] theorem kSet_s : kSet i r (d, S) = if i < r.length then some (.nx (r.set i (some (false, d))), S) else none := rfl
@[simp] theorem y_own : exS P cf (.own i e) r S = (evE P cf e r S).bind (kOwn i r) := by rw [exS]; rfl
@[simp] theorem kOwn_s : kOwn i r (.lst ds, S) = if i < r.length then some (.nx (r.set i (some (true, .lst ds))), S) else none := rfl
@[simp] theorem y_unp : exS P cf (.unp tg e) r S = (evE P cf e r S).bind (kUnp tg r) := by rw [exS]; rfl
@[simp] theorem kUnp_s : kUnp tg r (d, S) = (asg tg d r).map (kNx S) := rfl
@[simp] theorem kNx_s : kNx S r = (.nx r, S) := rfl
@[simp] theorem asg_nm : asg (.nm i) d r = if i < r.length then some (r.set i (some (false, d))) else none := by rw [asg]
@[simp] theorem asg_tp {ts : List Tg} : asg (.tp ts) (.tup ds) r = asgs ts ds r := by rw [asg]
@[simp] theorem asg_tl {ts : List Tg} : asg (.tp ts) (.lst ds) r = asgs ts ds r := by rw [asg]
@[simp] theorem asgs_n : asgs [] [] r = some r := by rw [asgs]
@[simp] theorem asgs_c {t : Tg} {ts : List Tg} : asgs (t :: ts) (d :: ds) r = (asg t d r).bind (asgs ts ds) := by rw [asgs]
@[simp] theorem y_par : exS P cf (.par is es) r S = (evEs P cf es r S).bind (kPar is r) := by rw [exS]; rfl
@[simp] theorem kPar_s : kPar is r (ds, S) = (setAll r is ds).map (kNx S) := rfl
@[simp] theorem setAll_n : setAll r [] [] = some r := rfl
@[simp] theorem setAll_c : setAll r (i :: is) (d :: ds) = if i < r.length then setAll (r.set i (some (false, d))) is ds else none := rfl
@[simp] theorem y_put : exS P cf (.put a b e) r S = (evE P cf e r S).bind (kPut P cf a b r) := by rw [exS]; rfl
@[simp] theorem kPut_s {p : D × Sto} : kPut P cf a b r p = (evE P cf a r p.2).bind (kPut1 P cf b r p) := rfl
@[simp] theorem kPut1_s {p q : D × Sto} : kPut1 P cf b r p q = (evE P cf b r q.2).bind (kPut2 r p q) := rfl
@[simp] theorem kPut2_s {p : D × Sto} {S1 : Sto} {t : Int} : kPut2 r p (.ref n, S1) (.int t, S) = (S[n]?).bind (kPut3 r n t p S) := rfl
@[simp] theorem kPut3_s {p : D × Sto} {t : Int} : kPut3 r n t p S ds = (L2.ixN ds.length t).bind (kPut4 r n ds p S) := rfl
@[simp] theorem kPut4_s {p : D × Sto} : kPut4 r n ds p S j = if p.1.pure then some (.nx r, S.set n (ds.set j p.1)) else none := rfl
@[simp] theorem y_aug : exS P cf (.aug i op e) r S = kAug P cf i op e r S r[i]? := by
  rw [exS]
  rfl
@[simp] theorem kAug_s : kAug P cf i op e r S (some (some (false, d))) = (evE P cf e r S).bind (kAug2 i op d r) := rfl
@[simp] theorem kAug2_a {x y : Int} : kAug2 i .Add (.int x) r (.int y, S) = some (.nx (r.set i (some (false, .int (x + y)))), S) := rfl
@[simp] theorem kAug2_s {x y : Int} : kAug2 i .Sub (.int x) r (.int y, S) = some (.nx (r.set i (some (false, .int (x - y)))), S) := rfl
@[simp] theorem y_exp : exS P cf (.exp e) r S = (evE P cf e r S).map (kExp r) := by rw [exS]; rfl
@[simp] theorem kExp_s {p : D × Sto} : kExp r p = (.nx r, p.2) := rfl
@[simp] theorem y_app : exS P cf (.app i e) r S = (evE P cf e r S).bind (kAppe i r) := by rw [exS]; rfl
@[simp] theorem kAppe_s {p : D × Sto} : kAppe i r p = kAppd i r p r[i]? := rfl
@[simp] theorem kAppd_s {p : D × Sto} : kAppd i r p (some (some (true, .lst ds))) = if ds.length < 100000 then some (.nx (r.set i (some (true, .lst (ds ++ [p.1])))), p.2) else none := rfl
@[simp] theorem y_ite : exS P cf (.ite e us vs) r S = (evE P cf e r S).bind (kIf P cf us vs r) := by rw [exS]; rfl
@[simp] theorem kIf_t : kIf P cf us vs r (.bl true, S) = exB P cf us r S := rfl
@[simp] theorem kIf_f : kIf P cf us vs r (.bl false, S) = exB P cf vs r S := rfl
@[simp] theorem y_whl : exS P cf (.whl e us) r S = whl (cW P cf e) (bW P cf us) most r S := by rw [exS]; rfl
@[simp] theorem cW_s : cW P cf e r S = evE P cf e r S := rfl
@[simp] theorem bW_s : bW P cf us r S = exB P cf us r S := rfl
@[simp] theorem y_for : exS P cf (.for_ tg e us) r S = (evE P cf e r S).bind (kFor P cf tg us r) := by rw [exS]; rfl
@[simp] theorem kFor_s : kFor P cf tg us r (d, S) = (itemsD (wk d)).bind (kFor2 P cf tg us r S) := rfl
@[simp] theorem kFor2_s {xs : List D} : kFor2 P cf tg us r S xs = forL tg (bW P cf us) xs r S := rfl
@[simp] theorem forL_n {f : Rho → Sto → Ro} : forL tg f [] r S = some (.nx r, S) := rfl
theorem forL_c {f : Rho → Sto → Ro} {x : D} {xs : List D} : forL tg f (x :: xs) r S = (asg tg x r).bind (kF1 tg f xs S) := rfl
@[simp] theorem kF1_s {f : Rho → Sto → Ro} {xs : List D} : kF1 tg f xs S r = (f r S).bind (kF2 tg f xs) := rfl
@[simp] theorem kF2_n {f : Rho → Sto → Ro} {xs : List D} : kF2 tg f xs (.nx r, S) = forL tg f xs r S := rfl
@[simp] theorem kF2_c {f : Rho → Sto → Ro} {xs : List D} : kF2 tg f xs (.ct r, S) = forL tg f xs r S := rfl
@[simp] theorem kF2_b {f : Rho → Sto → Ro} {xs : List D} : kF2 tg f xs (.bk r, S) = some (.nx r, S) := rfl
@[simp] theorem kF2_r {f : Rho → Sto → Ro} {xs : List D} : kF2 tg f xs (.rt d, S) = some (.rt d, S) := rfl
@[simp] theorem y_ret : exS P cf (.ret e) r S = (evE P cf e r S).map kRt := by rw [exS]; rfl
@[simp] theorem kRt_s : kRt (d, S) = (.rt d, S) := rfl
@[simp] theorem y_pas : exS P cf .pas r S = some (.nx r, S) := by rw [exS]
@[simp] theorem y_brk : exS P cf .brk r S = some (.bk r, S) := by rw [exS]
@[simp] theorem y_cnt : exS P cf .cnt r S = some (.ct r, S) := by rw [exS]
@[simp] theorem y_frz : exS P cf (.frz is st) r S = exS P cf st (frzR r is) S := by rw [exS]
@[simp] theorem y_n : exB P cf [] r S = some (.nx r, S) := by rw [exB]
@[simp] theorem y_c : exB P cf (st :: cs) r S = (exS P cf st r S).bind (kSeq P cf cs) := by rw [exB]; rfl
@[simp] theorem kSeq_n : kSeq P cf cs (.nx r, S) = exB P cf cs r S := rfl
@[simp] theorem kSeq_r : kSeq P cf cs (.rt d, S) = some (.rt d, S) := rfl
@[simp] theorem kSeq_b : kSeq P cf cs (.bk r, S) = some (.bk r, S) := rfl
@[simp] theorem kSeq_k : kSeq P cf cs (.ct r, S) = some (.ct r, S) := rfl
@[simp] theorem endF_r : endF n (some (.rt d, S)) = if d.pure then some (d, S.take n) else match d with
    | .ref m => if m < S.length then some (.ref m, S) else none
    | _ => none := rfl
@[simp] theorem endF_n : endF n (some (.nx r, S)) = some (.non, S.take n) := rfl
@[simp] theorem take_s : S.take S.length = S := List.take_length
@[simp] theorem items_l {xs : List D} : itemsD (.lst xs) = some xs := rfl
@[simp] theorem items_t {xs : List D} : itemsD (.tup xs) = some xs := rfl
@[simp] theorem idx_l {xs : List D} {t : Int} : idxD (.lst xs) (.int t) = L2.atI xs t := rfl
@[simp] theorem idx_t {xs : List D} {t : Int} : idxD (.tup xs) (.int t) = L2.atI xs t := rfl
@[simp] theorem atI_0 {α : Type} {x : α} {xs : List α} : L2.atI (x :: xs) 0 = some x := by
  have h : (0 : Int) < xs.length + 1 := by omega
  simp [L2.atI, L2.ixN, h]
@[simp] theorem atI_1 {α : Type} {x y : α} {xs : List α} : L2.atI (x :: y :: xs) 1 = some y := by
  have h : (1 : Int) < xs.length + 1 + 1 := by omega
  simp [L2.atI, L2.ixN, h]
@[simp] theorem atI_2 {α : Type} {x y z : α} {xs : List α} : L2.atI (x :: y :: z :: xs) 2 = some z := by
  have h : (2 : Int) < xs.length + 1 + 1 + 1 := by omega
  simp [L2.atI, L2.ixN, h]
@[simp] theorem atI_3 {α : Type} {x y z w : α} {xs : List α} : L2.atI (x :: y :: z :: w :: xs) 3 = some w := by
  have h : (3 : Int) < xs.length + 1 + 1 + 1 + 1 := by omega
  simp [L2.atI, L2.ixN, h]
@[simp] theorem bi_abs {t : Int} : biD .abs [.int t] = some (.int t.natAbs) := by
  show some (D.int (if t < 0 then -t else t)) = _
  congr 2
  split <;> omega
@[simp] theorem bi_len_l {xs : List D} : biD .len [.lst xs] = some (.int xs.length) := rfl
@[simp] theorem bi_len_t {xs : List D} : biD .len [.tup xs] = some (.int xs.length) := rfl
@[simp] theorem bi_tuple_l {xs : List D} : biD .tuple [.lst xs] = some (.tup xs) := rfl
@[simp] theorem bi_tuple_t {xs : List D} : biD .tuple [.tup xs] = some (.tup xs) := rfl
@[simp] theorem bi_list_l {xs : List D} : biD .list [.lst xs] = some (.lst xs) := rfl
@[simp] theorem bi_list_t {xs : List D} : biD .list [.tup xs] = some (.lst xs) := rfl
@[simp] theorem bi_int_i {t : Int} : biD .int [.int t] = some (.int t) := rfl
@[simp] theorem bi_int_b {t : Bool} : biD .int [.bl t] = some (.int (if t then 1 else 0)) := rfl
@[simp] theorem bi_max {x y : Int} : biD .max2 [.int x, .int y] = some (.int (if y > x then y else x)) := rfl
@[simp] theorem bi_min {x y : Int} : biD .min2 [.int x, .int y] = some (.int (if y < x then y else x)) := rfl
def kAl (bs : List Bool) : D := .bl (bs.all id)
def kAn (bs : List Bool) : D := .bl (bs.any id)
@[simp] theorem bi_all {xs : List D} : biD .all [.lst xs] = (boolsOf xs).map kAl := rfl
@[simp] theorem bi_any {xs : List D} : biD .any [.lst xs] = (boolsOf xs).map kAn := rfl
@[simp] theorem kAl_s {bs : List Bool} : kAl bs = .bl (bs.all id) := rfl
@[simp] theorem kAn_s {bs : List Bool} : kAn bs = .bl (bs.any id) := rfl
@[simp] theorem bools_n : boolsOf [] = some [] := rfl
@[simp] theorem bools_c {t : Bool} {xs : List D} : boolsOf (.bl t :: xs) = (boolsOf xs).map (List.cons t) := rfl
@[simp] theorem is_int_i {t : Int} : biD .isInt [.int t] = some (.bl true) := rfl
@[simp] theorem is_int_b {t : Bool} : biD .isInt [.bl t] = some (.bl true) := rfl
@[simp] theorem is_int_t {xs : List D} : biD .isInt [.tup xs] = some (.bl false) := rfl
@[simp] theorem is_int_s {t : Str} : biD .isInt [.str t] = some (.bl false) := rfl
@[simp] theorem is_int_n : biD .isInt [.non] = some (.bl false) := rfl
@[simp] theorem is_bool_i {t : Int} : biD .isBool [.int t] = some (.bl false) := rfl
@[simp] theorem is_bool_b {t : Bool} : biD .isBool [.bl t] = some (.bl true) := rfl
@[simp] theorem is_tup_i {t : Int} : biD .isTuple [.int t] = some (.bl false) := rfl
@[simp] theorem is_tup_b {t : Bool} : biD .isTuple [.bl t] = some (.bl false) := rfl
@[simp] theorem is_tup_t {xs : List D} : biD .isTuple [.tup xs] = some (.bl true) := rfl
@[simp] theorem is_str_s {t : Str} : biD .isStr [.str t] = some (.bl true) := rfl
@[simp] theorem is_str_i {t : Int} : biD .isStr [.int t] = some (.bl false) := rfl
@[simp] theorem isNon_i {t : Int} : isNon (.int t) = false := rfl
@[simp] theorem isNon_n : isNon .non = true := rfl
end
end Pv

set_option Elab.async false
set_option linter.all false
set_option maxRecDepth 100000
/-! Ev3: the machine's words for lists that grow and shrink; what can be compared. -/
namespace Pv
open PySem
noncomputable section
variable (P : Prg) (cf : Nat → List D → Sto → Option (D × Sto))
def kSp3 (S : Sto) (r : Rho) : Out × Sto := (.nx r, S)
def kSp2 (tg : Tg) (j : Nat) (r : Rho) (S : Sto) (ys : List D) (d : D) : Ro := (asg tg d (r.set j (some (true, .lst ys.dropLast)))).map (kSp3 S)
def kSp (tg : Tg) (j : Nat) (r : Rho) (S : Sto) : Option Slot → Ro
  | some (some (true, .lst ys)) => (ys[ys.length - 1]?).bind (kSp2 tg j r S ys)
  | _ => none
def kExt2 (i : Nat) (r : Rho) (d : D) (S : Sto) : Option Slot → Ro
  | some (some (true, .lst ds)) => match d with
    | .lst xs => if ds.length + xs.length < 100000 then some (.nx (r.set i (some (true, .lst (ds ++ xs)))), S) else none
    | _ => none
  | _ => none
def kExt (i : Nat) (r : Rho) (p : D × Sto) : Ro := kExt2 i r p.1 p.2 r[i]?
def kP2b (i : Nat) (a : Bool) (j : Nat) (b : Bool) (r : Rho) (d : D) (q : D × Sto) : Ro := if okOwn a d && okOwn b q.1 && decide (i < r.length ∧ j < r.length ∧ i ≠ j) then some (.nx ((r.set i (some (a, d))).set j (some (b, q.1))), q.2) else none
def kP2 (i : Nat) (a : Bool) (j : Nat) (b : Bool) (f : E) (r : Rho) (p : D × Sto) : Ro := (evE P cf f r p.2).bind (kP2b i a j b r p.1)
end
section
variable {P : Prg} {cf : Nat → List D → Sto → Option (D × Sto)} {i j : Nat} {r : Rho} {S : Sto} {tg : Tg} {d : D} {e f : E} {xs ys : List D} {a b : Bool}
@[simp] theorem y_spop : exS P cf (.spop tg j) r S = kSp tg j r S r[j]? := by
  rw [exS]
  cases h : r[j]? with
  | none => rfl
  | some s => match s with
    | none => rfl
    | some (true, .lst ys) => rfl
    | some (false, d) => rfl
    | some (true, .non) => rfl
    | some (true, .bl _) => rfl
    | some (true, .int _) => rfl
    | some (true, .str _) => rfl
    | some (true, .tup _) => rfl
    | some (true, .fz _) => rfl
    | some (true, .ref _) => rfl
    | some (true, .fn _) => rfl
@[simp] theorem kSp_s : kSp tg j r S (some (some (true, .lst ys))) = (ys[ys.length - 1]?).bind (kSp2 tg j r S ys) := rfl
@[simp] theorem kSp2_s : kSp2 tg j r S ys d = (asg tg d (r.set j (some (true, .lst ys.dropLast)))).map (kSp3 S) := rfl
@[simp] theorem kSp3_s : kSp3 S r = (.nx r, S) := rfl
@[simp] theorem y_extd : exS P cf (.ext i e) r S = (evE P cf e r S).bind (kExt i r) := by
  rw [exS]
  refine congrArg _ (funext fun p => ?_)
  unfold kExt kExt2
  split
  · rename_i h1 h2
    rw [h1, h2]
  · rename_i h
    split
    · rename_i ds h1
      split
      · rename_i xs h2
        exact absurd h2 (h _ _ h1)
      · rfl
    · rfl
@[simp] theorem kExt_s : kExt i r (d, S) = kExt2 i r d S r[i]? := rfl
@[simp] theorem kExt2_s : kExt2 i r (.lst xs) S (some (some (true, .lst ys))) = if ys.length + xs.length < 100000 then some (.nx (r.set i (some (true, .lst (ys ++ xs)))), S) else none := rfl
@[simp] theorem y_p2 : exS P cf (.par2 i a e j b f) r S = (evE P cf e r S).bind (kP2 P cf i a j b f r) := by rw [exS]; rfl
@[simp] theorem kP2_s : kP2 P cf i a j b f r (d, S) = (evE P cf f r S).bind (kP2b i a j b r d) := rfl
theorem kP2b_s {d' : D} : kP2b i a j b r d (d', S) = if okOwn a d && okOwn b d' && decide (i < r.length ∧ j < r.length ∧ i ≠ j) then some (.nx ((r.set i (some (a, d))).set j (some (b, d'))), S) else none := rfl
end
/-! what can be compared -/
def Ly (n : Nat) (x : D) : Prop := ∃ p, x.py = some p ∧ p.canLay0 = true ∧ p.depth ≤ n
theorem Ly.mono {n m : Nat} {x : D} (h : Ly n x) (e : n ≤ m) : Ly m x := let ⟨p, a, b, c⟩ := h; ⟨p, a, b, Nat.le_trans c e⟩
theorem Ly.ok {n : Nat} {x : D} (h : Ly n x) (e : n ≤ 64) : okPy x = true := by
  obtain ⟨p, h1, h2, h3⟩ := h
  unfold okPy
  rw [h1]
  show (p.canLay0 && decide (p.depth ≤ 64)) = true
  rw [h2, decide_eq_true (Nat.le_trans h3 e)]
  rfl
theorem Ly.int (i : Int) : Ly 0 (.int i) := ⟨.int i, rfl, by simp [PyData.canLay0], by simp [PyData.depth]⟩
theorem Ly.bl (b : Bool) : Ly 0 (.bl b) := ⟨.bool b, rfl, by simp [PyData.canLay0], by simp [PyData.depth]⟩
theorem Lys {n : Nat} : ∀ xs : List D, (∀ d ∈ xs, Ly n d) → ∃ ps, pys xs = some ps ∧ PyData.canLayAll0 ps = true ∧ PyData.depthAll ps ≤ n
  | [], _ => ⟨[], rfl, by simp [PyData.canLayAll0], by simp [PyData.depthAll]⟩
  | x :: xs, h => by
    obtain ⟨p, a, b, c⟩ := h x List.mem_cons_self
    obtain ⟨ps, a', b', c'⟩ := Lys xs fun y hy => h y (List.mem_cons_of_mem _ hy)
    refine ⟨p :: ps, ?_, by simp [PyData.canLayAll0, b, b'], by simp only [PyData.depthAll]; omega⟩
    show (x.py).bind _ = _
    rw [a]
    show (pys xs).map _ = _
    rw [a']
    rfl
theorem Ly.tup {n : Nat} {xs : List D} (h : ∀ d ∈ xs, Ly n d) : Ly (n + 1) (.tup xs) := by
  obtain ⟨ps, a, b, c⟩ := Lys xs h
  refine ⟨.tuple ps, ?_, by simp [PyData.canLay0, b], by simp only [PyData.depth]; omega⟩
  show (pys xs).map _ = _
  rw [a]
  rfl
theorem Ly.lst {n : Nat} {xs : List D} (h : ∀ d ∈ xs, Ly n d) : Ly (n + 1) (.lst xs) := by
  obtain ⟨ps, a, b, c⟩ := Lys xs h
  refine ⟨.list ps, ?_, by simp [PyData.canLay0, b], by simp only [PyData.depth]; omega⟩
  show (pys xs).map _ = _
  rw [a]
  rfl
theorem ly_ne {n : Nat} {ds : List D} (h : Ly n (.lst ds)) (e : n ≤ 64) : cmpD .NotEq (.lst ds) (.lst []) = some (!ds.isEmpty) := by
  show (if okPy (.lst ds) && okPy (.lst []) then some (!eqD (.lst ds) (.lst [])) else none) = _
  rw [h.ok e, show okPy (.lst []) = true from rfl]
  cases ds <;> rfl
end Pv

set_option Elab.async false
set_option linter.all false
set_option maxRecDepth 100000
/-! Ma: fractions and square forms in their one form: plain mathematics. -/
namespace Pv
open PySem

/-! ### no squares -/
def Nsq (d : Int) : Prop := ∀ s : Int, s * s ≠ d
theorem nsq_mul {m d : Int} (hm : m ≠ 0) (h : Nsq d) : Nsq (m * m * d) := fun s e => by
  have h1 : m ^ 2 ∣ s ^ 2 := by
    rw [Int.pow_succ, Int.pow_succ, Int.pow_zero, Int.one_mul, Int.pow_succ, Int.pow_succ, Int.pow_zero, Int.one_mul]
    exact ⟨d, e⟩
  obtain ⟨t, rfl⟩ := (Int.pow_dvd_pow_iff (by decide)).mp h1
  have e2 : (m * m) * (t * t) = (m * m) * d := by rw [← e]; ac_rfl
  exact h t (Int.eq_of_mul_eq_mul_left (Int.mul_ne_zero hm hm) e2)
theorem nsq_of {m d : Int} (h : Nsq (m * m * d)) : Nsq d := fun s e => h (m * s) (by rw [← e]; ac_rfl)

/-! ### greatest common divisors -/
theorem gcd_pos {a b : Int} (hb : 0 < b) : 0 < (Int.gcd a b : Int) := by
  have := Int.gcd_pos_of_ne_zero_right a (b := b) (by omega)
  omega
theorem gcd_le {a b : Int} (hb : 0 < b) : (Int.gcd a b : Int) ≤ b := Int.le_of_dvd hb (Int.gcd_dvd_right a b)
theorem gcd3_pos {a b c : Int} (ha : 0 < a) : 0 < (Int.gcd (Int.gcd a b) c : Int) := by
  have h1 : (Int.gcd a b : Int) ≠ 0 := by
    have := Int.gcd_pos_of_ne_zero_left b (a := a) (by omega)
    omega
  have := Int.gcd_pos_of_ne_zero_left c (a := (Int.gcd a b : Int)) h1
  omega
theorem gcd3_le {a b c : Int} (ha : 0 < a) : (Int.gcd (Int.gcd a b) c : Int) ≤ a :=
  Int.le_of_dvd ha (Int.dvd_trans (Int.gcd_dvd_left _ c) (Int.gcd_dvd_left a b))
theorem gcd3_d1 {a b c : Int} : (Int.gcd (Int.gcd a b) c : Int) ∣ a := Int.dvd_trans (Int.gcd_dvd_left _ c) (Int.gcd_dvd_left a b)
theorem gcd3_d2 {a b c : Int} : (Int.gcd (Int.gcd a b) c : Int) ∣ b := Int.dvd_trans (Int.gcd_dvd_left _ c) (Int.gcd_dvd_right a b)
theorem gcd3_d3 {a b c : Int} : (Int.gcd (Int.gcd a b) c : Int) ∣ c := Int.gcd_dvd_right _ c
theorem gcd_mul {k a b : Int} (hk : 0 < k) : (Int.gcd (k * a) (k * b) : Int) = k * (Int.gcd a b : Int) := by
  rw [Int.gcd_mul_left, Int.natCast_mul]
  congr 1
  omega
theorem gcd3_mul {k a b c : Int} (hk : 0 < k) : (Int.gcd (Int.gcd (k * a) (k * b)) (k * c) : Int) = k * (Int.gcd (Int.gcd a b) c : Int) := by
  rw [gcd_mul hk, gcd_mul hk]

/-! ### fractions -/
def fr (a b : Int) : D := .tup [.int (a / Int.gcd a b), .int (b / Int.gcd a b)]
structure Fr (m : Nat) (a b : Int) : Prop where
  b1 : 1 ≤ b
  g1 : Int.gcd a b = 1
  ba : Bd m a
  bb : Bd m b
theorem fr_mul {k a b : Int} (hk : 0 < k) : fr (k * a) (k * b) = fr a b := by
  unfold fr
  rw [gcd_mul hk, Int.mul_ediv_mul_of_pos _ _ hk, Int.mul_ediv_mul_of_pos _ _ hk]
theorem fr_eq {a b c d : Int} (hb : 0 < b) (hd : 0 < d) (h : a * d = c * b) : fr a b = fr c d := by
  have h1 := fr_mul (a := a) (b := b) hd
  have h2 := fr_mul (a := c) (b := d) hb
  rw [← h1, ← h2, Int.mul_comm d a, h, Int.mul_comm b c, Int.mul_comm d b]
theorem fr_self {m : Nat} {a b : Int} (h : Fr m a b) : fr a b = .tup [.int a, .int b] := by
  unfold fr
  rw [h.g1]
  simp
theorem fr_is {m : Nat} {a b c d : Int} (hb : 0 < b) (h : Fr m c d) (e : a * d = c * b) : fr a b = .tup [.int c, .int d] := by
  rw [← fr_self h]
  exact fr_eq hb (by have := h.b1; omega) e
/-- a fraction's one form, by its parts -/
theorem fr_ex {m : Nat} {a b : Int} (hb : 0 < b) (ha : Bd m a) (bb : Bd m b) : ∃ u v, fr a b = .tup [.int u, .int v] ∧ Fr m u v ∧ u * b = a * v ∧ (a = 0 → u = 0) := by
  have g0 := gcd_pos (a := a) hb
  obtain ⟨x, hx⟩ := Int.gcd_dvd_left a b
  obtain ⟨y, hy⟩ := Int.gcd_dvd_right a b
  have e1 : a / (Int.gcd a b : Int) = x := Int.ediv_eq_of_eq_mul_right (by omega) hx
  have e2 : b / (Int.gcd a b : Int) = y := Int.ediv_eq_of_eq_mul_right (by omega) hy
  have hy0 : 0 < y := by
    have := Int.ediv_pos_of_pos_of_dvd hb (by omega) (Int.gcd_dvd_right a b)
    omega
  refine ⟨x, y, by unfold fr; rw [e1, e2], ⟨by omega, ?_, ha.le ?_, bb.le ?_⟩, ?_, ?_⟩
  · have h := gcd_mul (k := (Int.gcd a b : Int)) (a := x) (b := y) g0
    rw [← hx, ← hy] at h
    have h2 : (Int.gcd a b : Int) * 1 = (Int.gcd a b : Int) * (Int.gcd x y : Int) := by rw [Int.mul_one]; exact h
    have h3 := Int.eq_of_mul_eq_mul_left (by omega) h2
    omega
  · rw [← e1]
    exact Int.natAbs_ediv_le_natAbs a _
  · rw [← e2]
    exact Int.natAbs_ediv_le_natAbs b _
  · calc x * b = x * ((Int.gcd a b : Int) * y) := by rw [← hy]
      _ = (Int.gcd a b : Int) * x * y := by ac_rfl
      _ = a * y := by rw [← hx]
  · intro h
    rw [h, Int.zero_ediv] at e1
    omega

/-! ### square forms -/
def prim (a b c s : Int) : D := .tup [.int (a / Int.gcd (Int.gcd a b) c), .int (b / Int.gcd (Int.gcd a b) c), .int (c / Int.gcd (Int.gcd a b) c), .int s]
theorem prim_mul {k a b c s : Int} (hk : 0 < k) : prim (k * a) (k * b) (k * c) s = prim a b c s := by
  unfold prim
  rw [gcd3_mul hk, Int.mul_ediv_mul_of_pos _ _ hk, Int.mul_ediv_mul_of_pos _ _ hk, Int.mul_ediv_mul_of_pos _ _ hk]
theorem prim_eq {x y a b c p q r s : Int} (hx : 0 < x) (hy : 0 < y) (e1 : x * p = y * a) (e2 : x * q = y * b) (e3 : x * r = y * c) : prim p q r s = prim a b c s := by
  rw [← prim_mul hx, ← prim_mul (a := a) hy, e1, e2, e3]
theorem prim_self {a b c s : Int} (h : Int.gcd (Int.gcd a b) c = 1) : prim a b c s = .tup [.int a, .int b, .int c, .int s] := by
  unfold prim
  rw [h]
  simp
/-- a root in its one form -/
structure Rt (m : Nat) (a b c s : Int) : Prop where
  a1 : 1 ≤ a
  s1 : s = 1 ∨ s = -1
  g1 : Int.gcd (Int.gcd a b) c = 1
  pos : 0 < b * b - 4 * a * c
  nsq : Nsq (b * b - 4 * a * c)
  ba : Bd m a
  bb : Bd m b
  bc : Bd m c
theorem b_shl {i j : Int} (h : szShl i j = true) : binD .LShift (.int i) (.int j) = some (.int (i * 2 ^ j.toNat)) := if_pos h
theorem lt_bits {n : Int} (h : 0 ≤ n) : n < 2 ^ Builtin.Int.intBits n := by
  have h1 : n.natAbs < 2 ^ Builtin.Int.intBits n := by
    unfold Builtin.Int.intBits
    split
    · rename_i c
      have : n = 0 := by simpa using c
      subst this
      decide
    · exact Nat.lt_log2_self
  have h2 : ((n.natAbs : Nat) : Int) < ((2 ^ Builtin.Int.intBits n : Nat) : Int) := by exact_mod_cast h1
  rw [Int.natAbs_of_nonneg h] at h2
  simpa using h2
theorem bd4 : Bd 3 4 := by unfold Bd; decide
theorem bd2 : Bd 2 2 := by unfold Bd; decide
theorem bd0 {k : Nat} : Bd k 0 := Nat.pow_pos (by decide)
theorem bd1 : Bd 1 1 := by unfold Bd; decide
theorem bdm1 : Bd 1 (-1) := by unfold Bd; decide
theorem Rt.bs {m : Nat} {a b c s : Int} (R : Rt m a b c s) : Bd 1 s := by
  rcases R.s1 with h | h <;> rw [h]
  · exact bd1
  · exact bdm1
theorem Rt.bdisc {m : Nat} {a b c s : Int} (R : Rt m a b c s) : Bd (2 * m + 4) (b * b - 4 * a * c) := (R.bb.mul R.bb).sub ((bd4.mul R.ba).mul R.bc) (by omega) (by omega)
theorem disc_mul {g x y z : Int} : g * y * (g * y) - 4 * (g * x) * (g * z) = g * g * (y * y - 4 * x * z) := by
  rw [Int.mul_sub]
  congr 1 <;> ac_rfl
theorem prim_ex {m : Nat} {a b c s : Int} (ha : 0 < a) (hs : s = 1 ∨ s = -1) (pos : 0 < b * b - 4 * a * c) (nsq : Nsq (b * b - 4 * a * c)) (ba : Bd m a) (bb : Bd m b) (bc : Bd m c) :
    ∃ g x y z, 0 < g ∧ a = g * x ∧ b = g * y ∧ c = g * z ∧ prim a b c s = .tup [.int x, .int y, .int z, .int s] ∧ Rt m x y z s := by
  have g0 := gcd3_pos (b := b) (c := c) ha
  obtain ⟨x, hx⟩ := gcd3_d1 (a := a) (b := b) (c := c)
  obtain ⟨y, hy⟩ := gcd3_d2 (a := a) (b := b) (c := c)
  obtain ⟨z, hz⟩ := gcd3_d3 (a := a) (b := b) (c := c)
  have e1 : a / (Int.gcd (Int.gcd a b) c : Int) = x := Int.ediv_eq_of_eq_mul_right (by omega) hx
  have e2 : b / (Int.gcd (Int.gcd a b) c : Int) = y := Int.ediv_eq_of_eq_mul_right (by omega) hy
  have e3 : c / (Int.gcd (Int.gcd a b) c : Int) = z := Int.ediv_eq_of_eq_mul_right (by omega) hz
  have hx0 : 0 < x := by
    have := Int.ediv_pos_of_pos_of_dvd ha (by omega) (gcd3_d1 (a := a) (b := b) (c := c))
    omega
  have b1 : Bd m x := ba.le (by rw [← e1]; exact Int.natAbs_ediv_le_natAbs a _)
  have b2 : Bd m y := bb.le (by rw [← e2]; exact Int.natAbs_ediv_le_natAbs b _)
  have b3 : Bd m z := bc.le (by rw [← e3]; exact Int.natAbs_ediv_le_natAbs c _)
  have h1 := gcd3_mul (k := (Int.gcd (Int.gcd a b) c : Int)) (a := x) (b := y) (c := z) g0
  rw [← hx, ← hy, ← hz] at h1
  have pe : prim a b c s = .tup [.int x, .int y, .int z, .int s] := by unfold prim; rw [e1, e2, e3]
  generalize (Int.gcd (Int.gcd a b) c : Int) = g at *
  have dm : b * b - 4 * a * c = g * g * (y * y - 4 * x * z) := by rw [hx, hy, hz]; exact disc_mul
  rw [dm] at pos nsq
  refine ⟨g, x, y, z, g0, hx, hy, hz, pe, ⟨by omega, hs, ?_, ?_, nsq_of nsq, b1, b2, b3⟩⟩
  · have h2 : g * 1 = g * (Int.gcd (Int.gcd x y) z : Int) := by rw [Int.mul_one]; exact h1
    have h3 := Int.eq_of_mul_eq_mul_left (by omega) h2
    omega
  · by_cases h : 0 < y * y - 4 * x * z
    · exact h
    · have h4 := Int.mul_nonneg (Int.le_of_lt (Int.mul_pos g0 g0)) (show 0 ≤ -(y * y - 4 * x * z) by omega)
      rw [Int.mul_neg] at h4
      omega
theorem pure_prim {a b c s : Int} : (prim a b c s).pure = true := rfl
theorem pure_fr {a b : Int} : (fr a b).pure = true := rfl
end Pv

set_option Elab.async false
set_option linter.all false
set_option maxRecDepth 100000
/-! Qa: fractions as rational numbers: a value in its one form is told by a number q; sizes. -/
namespace Pv
open PySem

def qD (q : Rat) : D := .tup [.int q.num, .int (q.den : Int)]
/-- top and bottom have at most m bits -/
structure Sz (m : Nat) (q : Rat) : Prop where
  n : Bd m q.num
  d : Bd m (q.den : Int)
theorem Sz.mono {m k : Nat} {q : Rat} (h : Sz m q) (e : m ≤ k) : Sz k q := ⟨h.n.mono e, h.d.mono e⟩
theorem den_pos' (q : Rat) : 0 < (q.den : Int) := by have := q.den_pos; omega
theorem fr_rat {a b : Int} (hb : 0 < b) : fr a b = qD ((a : Rat) / (b : Rat)) := by
  rw [← Rat.divInt_eq_div]
  unfold fr qD
  have hs : b.sign = 1 := Int.sign_eq_one_of_pos hb
  have hg : Int.gcd b a = Int.gcd a b := Int.gcd_comm b a
  have e1 : (Rat.divInt a b).num = a / (Int.gcd a b : Int) := by
    rw [Rat.num_divInt, hs, Int.one_mul, hg]
  have e2 : ((Rat.divInt a b).den : Int) = b / (Int.gcd a b : Int) := by
    rw [Rat.den_divInt, if_neg (by omega), hg, Int.natCast_ediv]
    congr 1
    omega
  rw [e1, e2]
theorem rat_self (q : Rat) : (q.num : Rat) / ((q.den : Int) : Rat) = q := by
  have h := Rat.num_divInt_den q
  rw [Rat.divInt_eq_div] at h
  exact h
theorem qD_fr (q : Rat) : fr q.num q.den = qD q := by
  rw [fr_rat (den_pos' q), rat_self]
theorem qD_inj {p q : Rat} (h : qD p = qD q) : p = q := by
  unfold qD at h
  injection h with h
  injection h with h1 h2
  injection h1 with h1
  injection h2 with h2 _
  injection h2 with h2
  exact Rat.ext h1 (by omega)
theorem qD_int (n : Int) : qD (n : Rat) = .tup [.int n, .int 1] := rfl
theorem den_ne (q : Rat) : ((q.den : Int) : Rat) ≠ 0 := by
  have h := den_pos' q
  intro e
  have : (q.den : Int) = 0 := by exact_mod_cast e
  omega
theorem add_frac (p q : Rat) : p + q = ((p.num * q.den + q.num * p.den : Int) : Rat) / ((p.den * q.den : Int) : Rat) := by
  have h1 := rat_self p
  have h2 := rat_self q
  have n1 := den_ne p
  have n2 := den_ne q
  rw [Rat.intCast_add, Rat.intCast_mul, Rat.intCast_mul, Rat.intCast_mul]
  generalize (p.num : Rat) = a at *
  generalize ((p.den : Int) : Rat) = b at *
  generalize (q.num : Rat) = c at *
  generalize ((q.den : Int) : Rat) = d at *
  rw [← h1, ← h2]
  grind
theorem sub_frac (p q : Rat) : p - q = ((p.num * q.den - q.num * p.den : Int) : Rat) / ((p.den * q.den : Int) : Rat) := by
  have h1 := rat_self p
  have h2 := rat_self q
  have n1 := den_ne p
  have n2 := den_ne q
  rw [Rat.intCast_sub, Rat.intCast_mul, Rat.intCast_mul, Rat.intCast_mul]
  generalize (p.num : Rat) = a at *
  generalize ((p.den : Int) : Rat) = b at *
  generalize (q.num : Rat) = c at *
  generalize ((q.den : Int) : Rat) = d at *
  rw [← h1, ← h2]
  grind
theorem mul_frac (p q : Rat) : p * q = ((p.num * q.num : Int) : Rat) / ((p.den * q.den : Int) : Rat) := by
  have h1 := rat_self p
  have h2 := rat_self q
  have n1 := den_ne p
  have n2 := den_ne q
  rw [Rat.intCast_mul, Rat.intCast_mul]
  generalize (p.num : Rat) = a at *
  generalize ((p.den : Int) : Rat) = b at *
  generalize (q.num : Rat) = c at *
  generalize ((q.den : Int) : Rat) = d at *
  rw [← h1, ← h2]
  grind
theorem dd_pos (p q : Rat) : 0 < (p.den : Int) * (q.den : Int) := Int.mul_pos (den_pos' p) (den_pos' q)
theorem fr_add (p q : Rat) : fr (p.num * q.den + q.num * p.den) (p.den * q.den) = qD (p + q) := by
  rw [fr_rat (dd_pos p q), ← add_frac]
theorem fr_sub (p q : Rat) : fr (p.num * q.den - q.num * p.den) (p.den * q.den) = qD (p - q) := by
  rw [fr_rat (dd_pos p q), ← sub_frac]
theorem fr_times (p q : Rat) : fr (p.num * q.num) (p.den * q.den) = qD (p * q) := by
  rw [fr_rat (dd_pos p q), ← mul_frac]
/-- a quotient's size -/
theorem sz_frac {m : Nat} {a b : Int} (hb : 0 < b) (ha : Bd m a) (bb : Bd m b) : Sz m ((a : Rat) / (b : Rat)) := by
  have h := fr_rat (a := a) hb
  unfold fr qD at h
  injection h with h
  injection h with h1 h2
  injection h1 with h1
  injection h2 with h2 _
  injection h2 with h2
  refine ⟨?_, ?_⟩
  · rw [← h1]
    exact ha.le (Int.natAbs_ediv_le_natAbs a _)
  · rw [← h2]
    exact bb.le (Int.natAbs_ediv_le_natAbs b _)
theorem Sz.add {m k l : Nat} {p q : Rat} (h : Sz m p) (h' : Sz k q) (e : m + k + 1 ≤ l) : Sz l (p + q) := by
  rw [add_frac]
  exact sz_frac (dd_pos p q) ((h.n.mul h'.d).add (h'.n.mul h.d) (by omega) (by omega)) ((h.d.mul h'.d).mono (by omega))
theorem Sz.sub {m k l : Nat} {p q : Rat} (h : Sz m p) (h' : Sz k q) (e : m + k + 1 ≤ l) : Sz l (p - q) := by
  rw [sub_frac]
  exact sz_frac (dd_pos p q) ((h.n.mul h'.d).sub (h'.n.mul h.d) (by omega) (by omega)) ((h.d.mul h'.d).mono (by omega))
theorem Sz.mul {m k l : Nat} {p q : Rat} (h : Sz m p) (h' : Sz k q) (e : m + k ≤ l) : Sz l (p * q) := by
  rw [mul_frac]
  exact sz_frac (dd_pos p q) ((h.n.mul h'.n).mono e) ((h.d.mul h'.d).mono e)
theorem Sz.neg {m : Nat} {p : Rat} (h : Sz m p) : Sz m (-p) := ⟨by rw [Rat.neg_num]; exact h.n.neg, h.d⟩
theorem Sz.int {m : Nat} {n : Int} (h : Bd m n) (e : 1 ≤ m) : Sz m (n : Rat) := ⟨h, bd1.mono e⟩
theorem qD_neg (q : Rat) : qD (-q) = .tup [.int (-q.num), .int (q.den : Int)] := rfl
theorem qD_0 : qD 0 = .tup [.int 0, .int 1] := rfl
theorem qD_1 : qD 1 = .tup [.int 1, .int 1] := rfl
theorem lt_num (p q : Rat) : (p.num * q.den < q.num * p.den) ↔ p < q := (Rat.lt_iff p q).symm
theorem le_num (p q : Rat) : (p.num * q.den ≤ q.num * p.den) ↔ p ≤ q := (Rat.le_iff p q).symm
theorem num_pos (q : Rat) : (0 < q.num) ↔ 0 < q := by
  have h := Rat.lt_iff 0 q
  simp at h
  exact h.symm
theorem num_neg (q : Rat) : (q.num < 0) ↔ q < 0 := by
  have h := Rat.lt_iff q 0
  simp at h
  exact h.symm
theorem num_le (q : Rat) : (q.num ≤ 0) ↔ q ≤ 0 := by
  have h := Rat.le_iff q 0
  simp at h
  exact h.symm
@[simp] theorem pure_qD (q : Rat) : (qD q).pure = true := rfl
/-- a drawn fraction -/
theorem fr_q {a b : Int} (hb : 0 < b) : ∃ q : Rat, fr a b = qD q ∧ q = (a : Rat) / (b : Rat) := ⟨_, fr_rat hb, rfl⟩
end Pv

set_option Elab.async false
set_option linter.all false
set_option maxRecDepth 100000
/-! Mb: equations of the shifted and the scaled form. -/
namespace Pv
open PySem
theorem cancel {v x y : Int} (hv : 0 < v) (h : v * x = v * y) : x = y := Int.eq_of_mul_eq_mul_left (by omega) h
/-- quotients: u / v = x / y -/
theorem q_sub {u1 v1 u v b x n : Int} (hv : 0 < v1) (h1 : u1 * n = x * v1) (h : u * (1 * v1) = (b * v1 - u1 * 1) * v) : u * n = (b * n - x) * v := by
  refine cancel hv ?_
  grind
theorem q_mul {u1 v1 u v x n t : Int} (hv : 0 < v1) (h1 : u1 * n = x * v1) (h : u * (v1 * n) = u1 * t * v) : u * (n * n) = x * t * v := by
  refine cancel hv ?_
  grind
theorem q_add {u1 v1 u2 v2 u v x y n : Int} (hv : 0 < v1) (hw : 0 < v2) (h1 : u1 * n = x * v1) (h2 : u2 * n = y * v2) (h : u * (v1 * v2) = (u1 * v2 + u2 * v1) * v) : u * n = (x + y) * v := by
  refine cancel hv (cancel hw ?_)
  grind
theorem disc_shift {a b c t n : Int} : (b * n - 2 * a * t) * n * ((b * n - 2 * a * t) * n) - 4 * (a * (n * n)) * (a * t * t + (c * n - b * t) * n) = n * n * (n * n) * (b * b - 4 * a * c) := by
  grind
theorem disc_scale {a b c t n : Int} : b * t * n * (b * t * n) - 4 * (a * (n * n)) * (c * t * t) = t * n * (t * n) * (b * b - 4 * a * c) := by
  grind
theorem pos_of {m d : Int} (hm : m ≠ 0) (h : 0 < d) : 0 < m * m * d := Int.mul_pos (by
  rcases Int.lt_or_gt_of_ne hm with h | h
  · exact Int.mul_pos_of_neg_of_neg h h
  · exact Int.mul_pos h h) h
theorem of_pos {m d : Int} (h : 0 < m * m * d) : 0 < d := by
  by_cases h0 : 0 < d
  · exact h0
  · have h1 : 0 ≤ m * m := by
      rcases Int.le_total 0 m with h | h
      · exact Int.mul_nonneg h h
      · have := Int.mul_nonneg (Int.neg_nonneg.mpr h) (Int.neg_nonneg.mpr h)
        rw [Int.neg_mul_neg] at this
        exact this
    have h4 := Int.mul_nonneg h1 (show 0 ≤ -d by omega)
    rw [Int.mul_neg] at h4
    omega
/-- the form over its common bottom -/
theorem by_form {X L A B C p q r a1 d1 a2 d2 a3 d3 : Int} (hX : 0 < X) (hL : 0 < L) (hA : 0 < A) (p1 : d1 ∣ L) (p2 : d2 ∣ L) (p3 : d3 ∣ L) (h1 : 0 < d1) (h2 : 0 < d2) (h3 : 0 < d3)
    (e1 : a1 * X = A * d1) (e2 : a2 * X = B * d2) (e3 : a3 * X = C * d3) (f1 : p = a1 * (L / d1)) (f2 : q = a2 * (L / d2)) (f3 : r = a3 * (L / d3)) (pos : 0 < B * B - 4 * A * C) (nsq : Nsq (B * B - 4 * A * C)) :
    X * p = L * A ∧ X * q = L * B ∧ X * r = L * C ∧ 0 < p ∧ 0 < q * q - 4 * p * r ∧ Nsq (q * q - 4 * p * r) := by
  have g : ∀ {d a x y : Int}, 0 < d → d ∣ L → a * X = x * d → y = a * (L / d) → X * y = L * x := by
    rintro d a x y hd ⟨k, hk⟩ e f
    rw [f, hk, Int.mul_ediv_cancel_left _ (by omega)]
    grind
  have g1 := g h1 p1 e1 f1
  have g2 := g h2 p2 e2 f2
  have g3 := g h3 p3 e3 f3
  have dm : X * X * (q * q - 4 * p * r) = L * L * (B * B - 4 * A * C) := by
    rw [← disc_mul, ← disc_mul, g1, g2, g3]
  have hp : 0 < p := by
    by_cases h : 0 < p
    · exact h
    · have h4 := Int.mul_nonneg (Int.le_of_lt hX) (show 0 ≤ -p by omega)
      rw [Int.mul_neg] at h4
      have := Int.mul_pos hL hA
      omega
  have n2 := nsq_mul (m := L) (by omega) nsq
  rw [← dm] at n2
  have q2 := pos_of (m := L) (by omega) pos
  rw [← dm] at q2
  exact ⟨g1, g2, g3, hp, of_pos q2, nsq_of n2⟩
end Pv
namespace Pv
theorem bsign (a : Int) : Bd 1 a.sign := by
  rcases Int.lt_trichotomy a 0 with h | h | h
  · rw [Int.sign_eq_neg_one_of_neg h]; exact bdm1
  · rw [h]; exact bd0
  · rw [Int.sign_eq_one_of_pos h]; exact bd1
def sgn1 (a b d : Int) : Int := if 0 ≤ a.sign * (if 0 < d then b.sign else 0) then (if a.sign ≠ 0 then a.sign else if 0 < d then b.sign else 0) else a.sign * (a * a - b * b * d).sign
theorem sgn1_0 {a : Int} {b : Int} : sgn1 a b 0 = a.sign := by
  unfold sgn1
  by_cases h : a.sign = 0 <;> simp [h]
theorem sq_sign {a b : Int} (h : 0 < a) (g : 0 < b) : (a * a.natAbs + b * b.natAbs).sign = 1 := by
  have h1 := Int.mul_pos h (show (0 : Int) < a.natAbs by omega)
  have h2 := Int.mul_pos g (show (0 : Int) < b.natAbs by omega)
  exact Int.sign_eq_one_of_pos (by omega)
theorem sgn_two {x y : Int} : (2 * x * (2 * x) - 2 * y * (2 * y)).sign = (x * x - y * y).sign := by
  have e : 2 * x * (2 * x) - 2 * y * (2 * y) = 4 * (x * x - y * y) := by grind
  rw [e, Int.sign_mul, show (4 : Int).sign = 1 from rfl, Int.one_mul]
/-- the two ways to the sign of c + a * root of d -/
theorem sgn1_eq {c a d : Int} (hd : 0 < d) : sgn1 (2 * c) (2 * a) d = (c * c.natAbs + a * a.natAbs * d).sign := by
  have s2 : ∀ x : Int, (2 * x).sign = x.sign := fun x => by rw [Int.sign_mul, show (2 : Int).sign = 1 from rfl, Int.one_mul]
  have e4 : (2 * c * (2 * c) - 2 * a * (2 * a) * d).sign = (c * c - a * a * d).sign := by
    have e : 2 * c * (2 * c) - 2 * a * (2 * a) * d = 4 * (c * c - a * a * d) := by grind
    rw [e, Int.sign_mul, show (4 : Int).sign = 1 from rfl, Int.one_mul]
  unfold sgn1
  rw [if_pos hd, s2, s2, e4]
  rcases Int.lt_trichotomy c 0 with hc | hc | hc
  · have n1 : (c.natAbs : Int) = -c := by omega
    rw [Int.sign_eq_neg_one_of_neg hc, n1]
    rcases Int.lt_trichotomy a 0 with ha | ha | ha
    · have n2 : (a.natAbs : Int) = -a := by omega
      have h1 := Int.mul_pos_of_neg_of_neg hc hc
      have h2 := Int.mul_pos (Int.mul_pos_of_neg_of_neg ha ha) hd
      have e : c * -c + a * -a * d = -(c * c + a * a * d) := by grind
      have hp : 0 < c * c + a * a * d := by omega
      rw [Int.sign_eq_neg_one_of_neg ha, n2, e, Int.sign_neg, Int.sign_eq_one_of_pos hp]
      rfl
    · subst ha
      have h1 := Int.mul_pos_of_neg_of_neg hc hc
      have e : c * -c + 0 * ((0 : Int).natAbs : Int) * d = -(c * c) := by simp [Int.mul_neg]
      rw [e, Int.sign_neg, Int.sign_eq_one_of_pos h1]
      rfl
    · have n2 : (a.natAbs : Int) = a := by omega
      have e : c * -c + a * a * d = -(c * c - a * a * d) := by grind
      rw [Int.sign_eq_one_of_pos ha, n2, e, Int.sign_neg]
      simp
  · subst hc
    rcases Int.lt_trichotomy a 0 with ha | ha | ha
    · have n2 : (a.natAbs : Int) = -a := by omega
      have h2 := Int.mul_pos (Int.mul_pos_of_neg_of_neg ha ha) hd
      have e : (0 : Int) * ((0 : Int).natAbs : Int) + a * -a * d = -(a * a * d) := by grind
      rw [n2, e, Int.sign_neg, Int.sign_eq_one_of_pos h2, Int.sign_eq_neg_one_of_neg ha]
      rfl
    · subst ha
      simp
    · have n2 : (a.natAbs : Int) = a := by omega
      have h2 := Int.mul_pos (Int.mul_pos ha ha) hd
      have e : (0 : Int) * ((0 : Int).natAbs : Int) + a * a * d = a * a * d := by grind
      rw [n2, e, Int.sign_eq_one_of_pos h2, Int.sign_eq_one_of_pos ha]
      rfl
  · have n1 : (c.natAbs : Int) = c := by omega
    rw [Int.sign_eq_one_of_pos hc, n1]
    rcases Int.lt_trichotomy a 0 with ha | ha | ha
    · have n2 : (a.natAbs : Int) = -a := by omega
      have e : c * c + a * -a * d = c * c - a * a * d := by grind
      rw [Int.sign_eq_neg_one_of_neg ha, n2, e]
      simp
    · subst ha
      have h1 := Int.mul_pos hc hc
      have e : c * c + 0 * ((0 : Int).natAbs : Int) * d = c * c := by simp
      rw [e, Int.sign_eq_one_of_pos h1]
      rfl
    · have n2 : (a.natAbs : Int) = a := by omega
      have h1 := Int.mul_pos hc hc
      have h2 := Int.mul_pos (Int.mul_pos ha ha) hd
      have hp : 0 < c * c + a * a * d := by omega
      rw [Int.sign_eq_one_of_pos ha, n2, Int.sign_eq_one_of_pos hp]
      rfl
theorem newton {n x : Int} (hx : 0 < x) (hn : 0 ≤ n) : n < ((x + n / x) / 2 + 1) * ((x + n / x) / 2 + 1) := by
  obtain ⟨q, hq⟩ : ∃ q, q = n / x := ⟨_, rfl⟩
  obtain ⟨y, hy⟩ : ∃ y, y = (x + q) / 2 := ⟨_, rfl⟩
  rw [← hq, ← hy]
  have h1 : n < x * (q + 1) := by
    have := Int.lt_mul_ediv_self_add (x := n) (k := x) hx
    rw [← hq] at this
    have e : x * (q + 1) = x * q + x := by grind
    omega
  have h2 : x + q + 1 ≤ 2 * (y + 1) := by omega
  have hq0 : 0 ≤ q := by rw [hq]; exact Int.ediv_nonneg hn (by omega)
  have h3 : (x + q + 1) * (x + q + 1) ≤ 2 * (y + 1) * (2 * (y + 1)) := Int.mul_le_mul h2 h2 (by omega) (by omega)
  have h4 : 4 * (x * (q + 1)) + (x - q - 1) * (x - q - 1) = (x + q + 1) * (x + q + 1) := by grind
  have h5 : 0 ≤ (x - q - 1) * (x - q - 1) := by
    rcases Int.le_total 0 (x - q - 1) with h | h
    · exact Int.mul_nonneg h h
    · have := Int.mul_nonneg (show 0 ≤ -(x - q - 1) by omega) (show 0 ≤ -(x - q - 1) by omega)
      rw [Int.neg_mul_neg] at this
      exact this
  have h6 : 2 * (y + 1) * (2 * (y + 1)) = 4 * ((y + 1) * (y + 1)) := by grind
  omega
theorem nsq_between {w d : Int} (h0 : 0 ≤ w) (h1 : w * w < d) (h2 : d < (w + 1) * (w + 1)) : Nsq d := by
  have key : ∀ s : Int, 0 ≤ s → s * s ≠ d := fun s hs e => by
    by_cases h : s ≤ w
    · have := Int.mul_le_mul h h hs h0
      omega
    · have := Int.mul_le_mul (show w + 1 ≤ s by omega) (show w + 1 ≤ s by omega) (by omega) hs
      omega
  intro s e
  rcases Int.le_total 0 s with h | h
  · exact key s h e
  · exact key (-s) (by omega) (by rw [Int.neg_mul_neg]; exact e)
theorem disc_num {p q d r : Int} : -2 * p * r * (-2 * p * r) - 4 * (r * r) * (p * p - q * q * d) = 2 * r * q * (2 * r * q) * d := by
  grind
/-- a moment in its one form -/
def Mom (m : Nat) (M : D) : Prop := (∃ a b, M = .tup [.int a, .int b] ∧ Fr m a b) ∨ (∃ a b c s, M = .tup [.int a, .int b, .int c, .int s] ∧ Rt m a b c s)
theorem sign_pm {q : Int} (h : q ≠ 0) : q.sign = 1 ∨ q.sign = -1 := by
  rcases Int.lt_or_gt_of_ne h with h | h
  · exact .inr (Int.sign_eq_neg_one_of_neg h)
  · exact .inl (Int.sign_eq_one_of_pos h)
theorem mom_of_num {m : Nat} {p q d r : Int} (hr : 0 < r) (q0 : q ≠ 0) (hd : 0 < d) (ns : Nsq d) (b1 : Bd m (r * r)) (b2 : Bd m (-2 * p * r)) (b3 : Bd m (p * p - q * q * d)) : Mom m (prim (r * r) (-2 * p * r) (p * p - q * q * d) q.sign) := by
  have z : 2 * r * q ≠ 0 := Int.mul_ne_zero (by omega) q0
  obtain ⟨g, x, y, w, g0, e1, e2, e3, e4, R⟩ := prim_ex (m := m) (a := r * r) (b := -2 * p * r) (c := p * p - q * q * d) (s := q.sign) (Int.mul_pos hr hr) (sign_pm q0) (by rw [disc_num]; exact pos_of z hd) (by rw [disc_num]; exact nsq_mul z ns) b1 b2 b3
  exact .inr ⟨x, y, w, q.sign, e4, R⟩
theorem mom_fr {m : Nat} {a b : Int} (hb : 0 < b) (ha : Bd m a) (bb : Bd m b) : Mom m (fr a b) := by
  obtain ⟨u, v, e, F, _⟩ := fr_ex hb ha bb
  exact .inl ⟨u, v, e, F⟩
theorem atI_in {xs : List D} {v : Int} (h0 : 0 ≤ v) (h1 : v < xs.length) : ∃ d, d ∈ xs ∧ L2.atI xs v = some d := by
  have h2 : v.toNat < xs.length := by omega
  refine ⟨xs[v.toNat], List.getElem_mem h2, ?_⟩
  unfold L2.atI L2.ixN
  rw [if_pos h0, if_pos h1]
  simp [h2]
theorem bd_of {k : Nat} {i : Int} (m : Nat) (h : i.natAbs ≤ m) (e : m < 2 ^ k := by decide) : Bd k i := by
  unfold Bd
  omega
end Pv

namespace Pv
theorem Fr.neg {m : Nat} {t n : Int} (F : Fr m t n) : Fr m (-t) n := ⟨F.b1, by rw [Int.neg_gcd]; exact F.g1, F.ba.neg, F.bb⟩
section
variable {a b c g x y z n t s u v w : Int}
theorem m_f1 (h : x * (v * n) = (u * n + t * v) * y) : (x * n + -t * y) * v = u * (y * n) := by grind
theorem m_f2 (h : x * (v * n) = u * t * y) : x * n * v = u * (y * t) := by grind
theorem m_f3 (h : x * (v * n) = u * t * y) : x * -n * v = u * (y * -t) := by grind
theorem m_f4 : a * (u * u + 0 * 0 * 0) + b * u * v + c * v * v = a * u * u + b * u * v + c * v * v := by grind
theorem m_b1 (h1 : a * (n * n) = g * x) : g * (x * (n * n)) = n * n * (n * n) * a := by grind
theorem m_b2 (h1 : a * (n * n) = g * x) (h2 : (b * n - 2 * a * t) * n = g * y) : g * ((y * n - 2 * x * (-t)) * n) = n * n * (n * n) * b := by grind
theorem m_b3 (h1 : a * (n * n) = g * x) (h2 : (b * n - 2 * a * t) * n = g * y) (h3 : a * t * t + (c * n - b * t) * n = g * z) : g * (x * (-t) * (-t) + (z * n - y * (-t)) * n) = n * n * (n * n) * c := by grind
theorem m_s1 (h : a * (n * n) = g * x) : g * (x * (t * t)) = n * n * (t * t) * a := by grind
theorem m_s2 (h : b * t * n = g * y) : g * (y * n * t) = n * n * (t * t) * b := by grind
theorem m_s3 (h : c * t * t = g * z) : g * (z * n * n) = n * n * (t * t) * c := by grind
theorem m_n1 (h : a * (n * n) = g * x) : g * (x * (-t * -t)) = n * n * (t * t) * a := by grind
theorem m_n2 (h : b * t * n = g * y) : g * (y * -n * -t) = n * n * (t * t) * b := by grind
theorem m_n3 (h : c * t * t = g * z) : g * (z * -n * -n) = n * n * (t * t) * c := by grind
theorem m_q1 : 1 * (2 * a * n * (2 * a * n)) = 4 * a * (a * (n * n)) := by grind
theorem m_q2 : 1 * (-2 * (-b * t) * (2 * a * n)) = 4 * a * (b * t * n) := by grind
theorem m_q3 (ss : s * s = 1) : 1 * (-b * t * (-b * t) - s * t * (s * t) * (b * b - 4 * a * c)) = 4 * a * (c * t * t) := by
  have e : -b * t * (-b * t) - s * t * (s * t) * (b * b - 4 * a * c) = b * t * (b * t) - s * s * (t * t) * (b * b - 4 * a * c) := by grind
  rw [e, ss]
  grind
theorem m_l2 : 1 * (-2 * (-b * n + t * (2 * a)) * (2 * a * n)) = 4 * a * ((b * n - 2 * a * t) * n) := by grind
theorem m_l3 (ss : s * s = 1) : 1 * ((-b * n + t * (2 * a)) * (-b * n + t * (2 * a)) - s * n * (s * n) * (b * b - 4 * a * c)) = 4 * a * (a * t * t + (c * n - b * t) * n) := by
  have e : (-b * n + t * (2 * a)) * (-b * n + t * (2 * a)) - s * n * (s * n) * (b * b - 4 * a * c) = (-b * n + t * (2 * a)) * (-b * n + t * (2 * a)) - s * s * (n * n) * (b * b - 4 * a * c) := by grind
  rw [e, ss]
  grind
theorem m_g1 (ss : s * s = 1) : u * (-b * -b + s * s * (b * b - 4 * a * c)) + v * -b * (2 * a) + w * (2 * a) * (2 * a) = 2 * (2 * a * (w * a - u * c) - (v * a - u * b) * b) := by
  rw [ss]
  grind
theorem m_g2 : 2 * u * -b * s + v * s * (2 * a) = 2 * ((v * a - u * b) * s) := by grind
end
end Pv

set_option Elab.async false
set_option linter.all false
set_option maxRecDepth 100000
/-! Re: texts of numbers and of tuples of numbers. -/
namespace Pv
open PySem
theorem int_len {i : Int} (h : Bd 1000 i) : (PyData.shown (.int i)).length ≤ 1002 := by
  simp only [PyData.shown]
  have := PySem.int_text_length_le (a := i) (k := 1001) (by decide) (by have := h.log; omega)
  show (Str.ofString (toString i)).length ≤ _
  rw [ofString_length]
  omega
theorem int_show {i : Int} (h : Bd 1000 i) : PyData.showable (.int i) = true := by
  have := h.log
  simp only [PyData.showable, decide_eq_true_eq]
  omega
theorem rp_of {x : D} {p : PyData} (h : x.py = some p) (h1 : p.showable = true) (h2 : p.shown.length ≤ 100000) (h3 : p.depth ≤ 40) : biD .repr [x] = some (.str p.shown) := by
  show (x.py).bind _ = _
  rw [h]
  show (if _ then _ else _) = _
  rw [if_pos (by simp [h1, h2, h3])]
theorem rp_int {i : Int} (h : Bd 1000 i) : ∃ s, biD .repr [.int i] = some (.str s) :=
  ⟨_, rp_of rfl (int_show h) (by have := int_len h; omega) (by show (0 : Nat) ≤ 40; decide)⟩
theorem rp_2 {a b : Int} (ha : Bd 1000 a) (hb : Bd 1000 b) : ∃ s, biD .repr [.tup [.int a, .int b]] = some (.str s) := by
  refine ⟨_, rp_of (p := .tuple [.int a, .int b]) rfl ?_ ?_ ?_⟩
  · simp [PyData.showable, PyData.showableAll, int_show ha, int_show hb]
    have := ha.log
    have := hb.log
    omega
  · simp only [PyData.shown]
    have := tupleText_len_le (PyData.shownAll [.int a, .int b])
    have e1 := int_len ha
    have e2 := int_len hb
    simp only [PyData.shownAll, List.map_cons, List.map_nil, List.sum_cons, List.sum_nil, List.length_cons, List.length_nil] at this ⊢
    omega
  · simp [PyData.depth, PyData.depthAll]
theorem rp_4 {a b c s : Int} (ha : Bd 1000 a) (hb : Bd 1000 b) (hc : Bd 1000 c) (hs : Bd 1000 s) : ∃ t, biD .repr [.tup [.int a, .int b, .int c, .int s]] = some (.str t) := by
  refine ⟨_, rp_of (p := .tuple [.int a, .int b, .int c, .int s]) rfl ?_ ?_ ?_⟩
  · simp [PyData.showable, PyData.showableAll, int_show ha, int_show hb]
    have := ha.log
    have := hb.log
    have := hc.log
    have := hs.log
    omega
  · simp only [PyData.shown]
    have := tupleText_len_le (PyData.shownAll [.int a, .int b, .int c, .int s])
    have e1 := int_len ha
    have e2 := int_len hb
    have e3 := int_len hc
    have e4 := int_len hs
    simp only [PyData.shownAll, List.map_cons, List.map_nil, List.sum_cons, List.sum_nil, List.length_cons, List.length_nil] at this ⊢
    omega
  · simp [PyData.depth, PyData.depthAll]
end Pv

set_option Elab.async false
set_option linter.all false
set_option maxRecDepth 100000
/-! Rg: regions, plain: their values, sizes, what is in them, moved ones; texts of values by repr, in general. -/
namespace Pv
open PySem

inductive Reg where
  | half (a b c : Int)
  | disc (x y s : Rat)
  | jn (w : Nat) (rs : List Reg)
def wordS : Nat → Str
  | 0 => "and"
  | 1 => "or"
  | _ => "not"
mutual
def Reg.d : Reg → D
  | .half a b c => .tup [.str "half", .int a, .int b, .int c]
  | .disc x y s => .tup [.str "disc", .tup [qD x, qD y], qD s]
  | .jn w rs => .tup (.str (wordS w) :: regsD rs)
def regsD : List Reg → List D
  | [] => []
  | r :: rs => r.d :: regsD rs
end
theorem regsD_map : ∀ rs : List Reg, regsD rs = rs.map Reg.d
  | [] => rfl
  | r :: rs => by simp [regsD, regsD_map rs]
mutual
/-- how deep, how many halves and discs, how many words -/
def Reg.dp : Reg → Nat
  | .half _ _ _ => 1
  | .disc _ _ _ => 1
  | .jn _ rs => regsDp rs + 1
def regsDp : List Reg → Nat
  | [] => 0
  | r :: rs => max r.dp (regsDp rs)
end
mutual
def Reg.np : Reg → Nat
  | .half _ _ _ => 1
  | .disc _ _ _ => 1
  | .jn _ rs => regsNp rs
def regsNp : List Reg → Nat
  | [] => 0
  | r :: rs => r.np + regsNp rs
end
mutual
def Reg.sz : Reg → Nat
  | .half _ _ _ => 1
  | .disc _ _ _ => 1
  | .jn _ rs => regsSz rs + 1
def regsSz : List Reg → Nat
  | [] => 0
  | r :: rs => r.sz + regsSz rs
end
mutual
def Reg.ok (m : Nat) : Reg → Prop
  | .half a b c => Bd m a ∧ Bd m b ∧ Bd m c ∧ (a ≠ 0 ∨ b ≠ 0)
  | .disc x y s => Sz m x ∧ Sz m y ∧ Sz m s ∧ 0 ≤ s
  | .jn w rs => 1 ≤ rs.length ∧ rs.length ≤ 8 ∧ w ≤ 2 ∧ (w = 2 → rs.length = 1) ∧ regsOk m rs
def regsOk (m : Nat) : List Reg → Prop
  | [] => True
  | r :: rs => r.ok m ∧ regsOk m rs
end
theorem regsOk_mem {m : Nat} : ∀ {rs : List Reg}, regsOk m rs → ∀ r ∈ rs, r.ok m
  | [], _, r, h => nomatch h
  | r :: rs, h, x, hx => by
    rcases List.mem_cons.mp hx with rfl | hx
    · exact h.1
    · exact regsOk_mem h.2 x hx
theorem regsOk_of {m : Nat} : ∀ {rs : List Reg}, (∀ r ∈ rs, r.ok m) → regsOk m rs
  | [], _ => trivial
  | r :: rs, h => ⟨h r List.mem_cons_self, regsOk_of fun x hx => h x (List.mem_cons_of_mem _ hx)⟩
theorem regsDp_le {n : Nat} : ∀ {rs : List Reg}, (∀ r ∈ rs, r.dp ≤ n) → regsDp rs ≤ n
  | [], _ => Nat.zero_le _
  | r :: rs, h => by
    have h1 := h r List.mem_cons_self
    have h2 := regsDp_le (rs := rs) fun x hx => h x (List.mem_cons_of_mem _ hx)
    simp only [regsDp]
    omega
theorem regsDp_mem : ∀ {rs : List Reg} {r : Reg}, r ∈ rs → r.dp ≤ regsDp rs
  | x :: rs, r, h => by
    simp only [regsDp]
    rcases List.mem_cons.mp h with rfl | h
    · omega
    · have := regsDp_mem h
      omega
theorem regsNp_le {n : Nat} : ∀ {rs : List Reg}, (∀ r ∈ rs, r.np ≤ n) → regsNp rs ≤ n * rs.length
  | [], _ => Nat.zero_le _
  | r :: rs, h => by
    have h1 := h r List.mem_cons_self
    have h2 := regsNp_le (rs := rs) fun x hx => h x (List.mem_cons_of_mem _ hx)
    simp only [regsNp, List.length_cons, Nat.mul_add, Nat.mul_one]
    omega
theorem Reg.dp_pos : ∀ r : Reg, 1 ≤ r.dp
  | .half _ _ _ => by simp [Reg.dp]
  | .disc _ _ _ => by simp [Reg.dp]
  | .jn _ _ => by simp [Reg.dp]
theorem Reg.sz_pos : ∀ r : Reg, 1 ≤ r.sz
  | .half _ _ _ => by simp [Reg.sz]
  | .disc _ _ _ => by simp [Reg.sz]
  | .jn _ _ => by simp [Reg.sz]
mutual
theorem reg_pure : ∀ r : Reg, r.d.pure = true
  | .half _ _ _ => rfl
  | .disc _ _ _ => rfl
  | .jn w rs => by
    show pures (.str (wordS w) :: regsD rs) = true
    rw [pures_cons, regs_pure rs]
    rfl
theorem regs_pure : ∀ rs : List Reg, pures (regsD rs) = true
  | [] => rfl
  | r :: rs => by
    show pures (r.d :: regsD rs) = true
    rw [pures_cons, reg_pure r, regs_pure rs]
    rfl
end
theorem regsD_len (rs : List Reg) : (regsD rs).length = rs.length := by rw [regsD_map, List.length_map]

/-! ### what is in them -/
mutual
def Reg.mem (x y : Rat) : Reg → Bool
  | .half a b c => decide ((a : Rat) * x + (b : Rat) * y ≤ (c : Rat))
  | .disc u v s => decide ((u - x) * (u - x) + (v - y) * (v - y) ≤ s)
  | .jn w rs => match w with
    | 0 => (regsMem x y rs).all id
    | 1 => (regsMem x y rs).any id
    | _ => !((regsMem x y rs).headD false)
def regsMem (x y : Rat) : List Reg → List Bool
  | [] => []
  | r :: rs => r.mem x y :: regsMem x y rs
end
theorem regsMem_map (x y : Rat) : ∀ rs : List Reg, regsMem x y rs = rs.map (Reg.mem x y)
  | [] => rfl
  | r :: rs => by simp [regsMem, regsMem_map x y rs]

/-! ### moved -/
mutual
def Reg.mv (u v : Rat) : Reg → Reg
  | .half a b c => .half (a * ((c : Rat) + ((a : Rat) * u + (b : Rat) * v)).den) (b * ((c : Rat) + ((a : Rat) * u + (b : Rat) * v)).den) ((c : Rat) + ((a : Rat) * u + (b : Rat) * v)).num
  | .disc x y s => .disc (x + u) (y + v) s
  | .jn w rs => .jn w (regsMv u v rs)
def regsMv (u v : Rat) : List Reg → List Reg
  | [] => []
  | r :: rs => r.mv u v :: regsMv u v rs
end
theorem half_mv (a b c : Int) (u v x y : Rat) : ((a * ((c : Rat) + ((a : Rat) * u + (b : Rat) * v)).den : Int) : Rat) * (x + u) + ((b * ((c : Rat) + ((a : Rat) * u + (b : Rat) * v)).den : Int) : Rat) * (y + v) ≤ ((((c : Rat) + ((a : Rat) * u + (b : Rat) * v)).num : Int) : Rat) ↔ (a : Rat) * x + (b : Rat) * y ≤ (c : Rat) := by
  have h := rat_self ((c : Rat) + ((a : Rat) * u + (b : Rat) * v))
  have n1 := den_ne ((c : Rat) + ((a : Rat) * u + (b : Rat) * v))
  have p1 : (0 : Rat) < ((((c : Rat) + ((a : Rat) * u + (b : Rat) * v)).den : Int) : Rat) := Rat.intCast_pos.mpr (den_pos' _)
  rw [Rat.intCast_mul, Rat.intCast_mul]
  generalize ((((c : Rat) + ((a : Rat) * u + (b : Rat) * v)).den : Int) : Rat) = d at *
  generalize ((((c : Rat) + ((a : Rat) * u + (b : Rat) * v)).num : Int) : Rat) = n at *
  have hn : n = (c + (a * u + b * v)) * d := by rw [← h]; grind
  have e1 : (a : Rat) * d * (x + u) + b * d * (y + v) = d * (a * x + b * y) + d * (a * u + b * v) := by grind
  have e2 : n = d * c + d * (a * u + b * v) := by rw [hn]; grind
  rw [e1, e2, Rat.add_le_add_right]
  exact ⟨fun k => Rat.le_of_mul_le_mul_left k p1, fun k => Rat.mul_le_mul_of_nonneg_left k (Rat.le_of_lt p1)⟩
mutual
theorem mem_mv (u v x y : Rat) : ∀ r : Reg, (r.mv u v).mem (x + u) (y + v) = r.mem x y
  | .half a b c => by
    simp only [Reg.mv, Reg.mem, half_mv]
  | .disc p q s => by
    have e1 : p + u - (x + u) = p - x := by grind
    have e2 : q + v - (y + v) = q - y := by grind
    simp only [Reg.mv, Reg.mem, e1, e2]
  | .jn w rs => by
    have e : (regsMem (x + u) (y + v) (regsMv u v rs)) = regsMem x y rs := mems_mv u v x y rs
    simp only [Reg.mv, Reg.mem, e]
theorem mems_mv (u v x y : Rat) : ∀ rs : List Reg, regsMem (x + u) (y + v) (regsMv u v rs) = regsMem x y rs
  | [] => rfl
  | r :: rs => by simp only [regsMv, regsMem, mem_mv u v x y r, mems_mv u v x y rs]
end
mutual
theorem mv_dp (u v : Rat) : ∀ r : Reg, (r.mv u v).dp = r.dp ∧ (r.mv u v).np = r.np ∧ (r.mv u v).sz = r.sz
  | .half a b c => ⟨rfl, rfl, rfl⟩
  | .disc p q s => ⟨rfl, rfl, rfl⟩
  | .jn w rs => by
    obtain ⟨h1, h2, h3, h4⟩ := mvs_dp u v rs
    simp only [Reg.mv, Reg.dp, Reg.np, Reg.sz, h1, h2, h3]
    exact ⟨trivial, trivial, trivial⟩
theorem mvs_dp (u v : Rat) : ∀ rs : List Reg, regsDp (regsMv u v rs) = regsDp rs ∧ regsNp (regsMv u v rs) = regsNp rs ∧ regsSz (regsMv u v rs) = regsSz rs ∧ (regsMv u v rs).length = rs.length
  | [] => ⟨rfl, rfl, rfl, rfl⟩
  | r :: rs => by
    obtain ⟨h1, h2, h3, h4⟩ := mvs_dp u v rs
    obtain ⟨g1, g2, g3⟩ := mv_dp u v r
    simp only [regsMv, regsDp, regsNp, regsSz, List.length_cons, h1, h2, h3, h4, g1, g2, g3]
    exact ⟨trivial, trivial, trivial, trivial⟩
end
theorem mv_num {m k : Nat} {a b c : Int} {u v : Rat} (ha : Bd m a) (hb : Bd m b) (hc : Bd m c) (hu : Sz k u) (hv : Sz k v) (m1 : 1 ≤ m) : Sz (3 * m + 2 * k + 2) ((c : Rat) + ((a : Rat) * u + (b : Rat) * v)) :=
  (Sz.int hc m1).add ((((Sz.int ha m1).mul hu (Nat.le_refl _)).add ((Sz.int hb m1).mul hv (Nat.le_refl _)) (Nat.le_refl _))) (by omega)
mutual
theorem mv_ok {m k : Nat} {u v : Rat} (hu : Sz k u) (hv : Sz k v) (m1 : 1 ≤ m) : ∀ r : Reg, r.ok m → (r.mv u v).ok (4 * m + 2 * k + 2)
  | .half a b c, h => by
    obtain ⟨h1, h2, h3, h4⟩ := h
    have s := mv_num h1 h2 h3 hu hv m1
    have dp := den_pos' ((c : Rat) + ((a : Rat) * u + (b : Rat) * v))
    refine ⟨(h1.mul s.d).mono (by omega), (h2.mul s.d).mono (by omega), s.n.mono (by omega), ?_⟩
    rcases h4 with h | h
    · exact .inl (Int.mul_ne_zero h (by omega))
    · exact .inr (Int.mul_ne_zero h (by omega))
  | .disc x y s, h => by
    obtain ⟨h1, h2, h3, h4⟩ := h
    exact ⟨h1.add hu (by omega), h2.add hv (by omega), h3.mono (by omega), h4⟩
  | .jn w rs, h => by
    obtain ⟨h1, h2, h3, h4, h5⟩ := h
    have l := (mvs_dp u v rs).2.2.2
    exact ⟨by rw [l]; exact h1, by rw [l]; exact h2, h3, fun e => by rw [l]; exact h4 e, mvs_ok hu hv m1 rs h5⟩
theorem mvs_ok {m k : Nat} {u v : Rat} (hu : Sz k u) (hv : Sz k v) (m1 : 1 ≤ m) : ∀ rs : List Reg, regsOk m rs → regsOk (4 * m + 2 * k + 2) (regsMv u v rs)
  | [], _ => trivial
  | r :: rs, h => ⟨mv_ok hu hv m1 r h.1, mvs_ok hu hv m1 rs h.2⟩
end

/-! ### texts by repr -/
def Rp (L dep : Nat) (x : D) : Prop := ∃ p, x.py = some p ∧ p.showable = true ∧ p.shown.length ≤ L ∧ p.depth ≤ dep
theorem Rp.mono {L M a b : Nat} {x : D} (h : Rp L a x) (e : L ≤ M) (f : a ≤ b) : Rp M b x := let ⟨p, h1, h2, h3, h4⟩ := h; ⟨p, h1, h2, Nat.le_trans h3 e, Nat.le_trans h4 f⟩
theorem Rp.rp {L dep : Nat} {x : D} (h : Rp L dep x) (e : L ≤ 100000) (f : dep ≤ 40) : ∃ s, biD .repr [x] = some (.str s) := by
  obtain ⟨p, h1, h2, h3, h4⟩ := h
  exact ⟨_, rp_of h1 h2 (by omega) (by omega)⟩
theorem Rps {L dep : Nat} : ∀ xs : List D, (∀ d ∈ xs, Rp L dep d) → ∃ ps, pys xs = some ps ∧ PyData.showableAll ps = true ∧ ((PyData.shownAll ps).map (·.length)).sum ≤ L * xs.length ∧ (PyData.shownAll ps).length = xs.length ∧ PyData.depthAll ps ≤ dep
  | [], _ => ⟨[], rfl, rfl, by simp [PyData.shownAll], rfl, by simp [PyData.depthAll]⟩
  | x :: xs, h => by
    obtain ⟨ps, e, h1, h2, h3, h4⟩ := Rps xs fun y hy => h y (List.mem_cons_of_mem _ hy)
    obtain ⟨p, e', g1, g2, g3⟩ := h x List.mem_cons_self
    refine ⟨p :: ps, ?_, ?_, ?_, ?_, ?_⟩
    · show (x.py).bind _ = _
      rw [e']
      show (pys xs).map _ = _
      rw [e]
      rfl
    · simp [PyData.showableAll, g1, h1]
    · simp only [PyData.shownAll, List.map_cons, List.sum_cons, List.length_cons, Nat.mul_add, Nat.mul_one]
      omega
    · simp only [PyData.shownAll, List.length_cons, h3]
    · simp only [PyData.depthAll]
      omega
theorem Rp.tup {L dep : Nat} {xs : List D} (h : ∀ d ∈ xs, Rp L dep d) : Rp ((L + 2) * xs.length + 3) (dep + 1) (.tup xs) := by
  obtain ⟨ps, e, h1, h2, h3, h4⟩ := Rps xs h
  refine ⟨.tuple ps, ?_, ?_, ?_, ?_⟩
  · show (pys xs).map PyData.tuple = _
    rw [e]
    rfl
  · simp only [PyData.showable, h1]
  · simp only [PyData.shown]
    have := tupleText_len_le (PyData.shownAll ps)
    rw [Nat.add_mul]
    omega
  · simp only [PyData.depth]
    omega
theorem Rp.int {i : Int} {m : Nat} (h : Bd m i) (e : m ≤ 1000) : Rp (m / 3 + 3) 0 (.int i) := by
  refine ⟨.int i, rfl, int_show (h.mono e), ?_, by simp [PyData.depth]⟩
  simp only [PyData.shown]
  have h8 : i.natAbs < 10 ^ (m / 3 + 1) := by
    have h1 : i.natAbs < 2 ^ m := h
    have h2 : 2 ^ m ≤ 2 ^ (3 * (m / 3 + 1)) := Nat.pow_le_pow_right (by decide) (by omega)
    have h3 : 2 ^ (3 * (m / 3 + 1)) = 8 ^ (m / 3 + 1) := by rw [Nat.pow_mul]
    have h4 : 8 ^ (m / 3 + 1) ≤ 10 ^ (m / 3 + 1) := Nat.pow_le_pow_left (by decide) _
    omega
  have := PySem.int_text_length_le10 (a := i) (k := m / 3 + 1) (by omega) h8
  show (Str.ofString (toString i)).length ≤ _
  rw [ofString_length]
  omega
theorem Rp.q {q : Rat} {m : Nat} (h : Sz m q) (e : m ≤ 1000) : Rp ((m / 3 + 3 + 2) * 2 + 3) 1 (qD q) :=
  Rp.tup (L := m / 3 + 3) (dep := 0) fun d hd => by
    simp only [List.mem_cons, List.not_mem_nil, or_false] at hd
    rcases hd with rfl | rfl
    · exact Rp.int h.n e
    · exact Rp.int h.d e
theorem Rp.bl (b : Bool) : Rp 5 0 (.bl b) := ⟨.bool b, rfl, rfl, by cases b <;> decide +kernel, by simp [PyData.depth]⟩
theorem Rp.word (w : Nat) : Rp 5 0 (.str (wordS w)) := by
  refine ⟨.str (wordS w), rfl, rfl, ?_, by simp [PyData.depth]⟩
  match w with
  | 0 => decide +kernel
  | 1 => decide +kernel
  | n + 2 =>
    show (PyData.shown (.str "not")).length ≤ 5
    decide +kernel
theorem Rp.pt {x y : Rat} {m : Nat} (hx : Sz m x) (hy : Sz m y) (e : m ≤ 1000) : Rp (((m / 3 + 3 + 2) * 2 + 3 + 2) * 2 + 3) 2 (.tup [qD x, qD y]) :=
  Rp.tup (L := (m / 3 + 3 + 2) * 2 + 3) (dep := 1) fun d hd => by
    simp only [List.mem_cons, List.not_mem_nil, or_false] at hd
    rcases hd with rfl | rfl
    · exact Rp.q hx e
    · exact Rp.q hy e
theorem half_word : Rp 6 0 (.str "half") := ⟨.str "half", rfl, rfl, by decide +kernel, by simp [PyData.depth]⟩
theorem disc_word : Rp 6 0 (.str "disc") := ⟨.str "disc", rfl, rfl, by decide +kernel, by simp [PyData.depth]⟩
mutual
theorem rp_reg {m : Nat} (hm : m ≤ 1000) : ∀ r : Reg, r.ok m → Rp ((4 * m + 130) * r.sz) (r.dp + 2) r.d
  | .half a b c, h => by
    obtain ⟨h1, h2, h3, _⟩ := h
    refine (Rp.tup (L := m / 3 + 6) (dep := 0) (xs := [.str "half", .int a, .int b, .int c]) fun d hd => ?_).mono (by simp [Reg.sz]; omega) (by simp [Reg.dp])
    simp only [List.mem_cons, List.not_mem_nil, or_false] at hd
    rcases hd with rfl | rfl | rfl | rfl
    · exact half_word.mono (by omega) (by omega)
    · exact (Rp.int h1 hm).mono (by omega) (by omega)
    · exact (Rp.int h2 hm).mono (by omega) (by omega)
    · exact (Rp.int h3 hm).mono (by omega) (by omega)
  | .disc x y s, h => by
    obtain ⟨h1, h2, h3, _⟩ := h
    refine (Rp.tup (L := ((m / 3 + 3 + 2) * 2 + 3 + 2) * 2 + 3) (dep := 2) (xs := [.str "disc", .tup [qD x, qD y], qD s]) fun d hd => ?_).mono (by simp [Reg.sz]; omega) (by simp [Reg.dp])
    simp only [List.mem_cons, List.not_mem_nil, or_false] at hd
    rcases hd with rfl | rfl | rfl
    · exact disc_word.mono (by omega) (by omega)
    · exact Rp.pt h1 h2 hm
    · exact (Rp.q h3 hm).mono (by omega) (by omega)
  | .jn w rs, h => by
    obtain ⟨h1, h2, _, _, h5⟩ := h
    obtain ⟨ps, e, g1, g2, g3, g4⟩ := rp_regs hm rs h5
    obtain ⟨p, e', k1, k2, k3⟩ := Rp.word w
    refine ⟨.tuple (p :: ps), ?_, ?_, ?_, ?_⟩
    · show (((D.str (wordS w)).py).bind fun y => (pys (regsD rs)).map fun ys => y :: ys).map PyData.tuple = _
      rw [e', e]
      rfl
    · simp [PyData.showable, PyData.showableAll, k1, g1]
    · simp only [PyData.shown, PyData.shownAll]
      have := tupleText_len_le (PyData.shown p :: PyData.shownAll ps)
      simp only [List.map_cons, List.sum_cons, List.length_cons, g3, Reg.sz] at this ⊢
      rw [Nat.mul_add]
      generalize (4 * m + 130) * regsSz rs = z at *
      omega
    · simp only [PyData.depth, PyData.depthAll, Reg.dp]
      omega
theorem rp_regs {m : Nat} (hm : m ≤ 1000) : ∀ rs : List Reg, regsOk m rs → ∃ ps, pys (regsD rs) = some ps ∧ PyData.showableAll ps = true ∧ ((PyData.shownAll ps).map (·.length)).sum ≤ (4 * m + 130) * regsSz rs ∧ (PyData.shownAll ps).length = rs.length ∧ PyData.depthAll ps ≤ regsDp rs + 2
  | [], _ => ⟨[], rfl, rfl, by simp [PyData.shownAll], rfl, by simp [PyData.depthAll]⟩
  | r :: rs, h => by
    obtain ⟨ps, e, h1, h2, h3, h4⟩ := rp_regs hm rs h.2
    obtain ⟨p, e', g1, g2, g3⟩ := rp_reg hm r h.1
    refine ⟨p :: ps, ?_, ?_, ?_, ?_, ?_⟩
    · show (r.d.py).bind _ = _
      rw [e']
      show (pys (regsD rs)).map _ = _
      rw [e]
      rfl
    · simp [PyData.showableAll, g1, h1]
    · simp only [PyData.shownAll, List.map_cons, List.sum_cons, regsSz, Nat.mul_add]
      omega
    · simp only [PyData.shownAll, List.length_cons, h3]
    · simp only [PyData.depthAll, regsDp]
      omega
end

/-! cuts and places -/
theorem slc_1 {x : D} {xs : List D} : slcD (.tup (x :: xs)) (some 1) none = some (.tup xs) := by
  have h : HT.sIx (xs.length + 1) 0 (some 1) = 1 := by
    rw [show ((1 : Int)) = ((1 : Nat) : Int) from rfl, HT.sIx_nat]
    omega
  simp [slcD, cutD, h, HT.sIx_none]
theorem atI_m2 {α : Type} {a b : α} : L2.atI [a, b] (-1) = some b := rfl
theorem atI_m3 {α : Type} {a b c : α} : L2.atI [a, b, c] (-1) = some c := rfl
theorem atI_m4 {α : Type} {a b c d : α} : L2.atI [a, b, c, d] (-1) = some d := rfl

/-! regions can be compared -/
theorem ly_q (q : Rat) : Ly 1 (qD q) := Ly.tup (n := 0) fun d hd => by
  simp only [List.mem_cons, List.not_mem_nil, or_false] at hd
  rcases hd with rfl | rfl <;> exact Ly.int _
theorem ly_pt (x y : Rat) : Ly 2 (.tup [qD x, qD y]) := Ly.tup (n := 1) fun d hd => by
  simp only [List.mem_cons, List.not_mem_nil, or_false] at hd
  rcases hd with rfl | rfl <;> exact ly_q _
theorem ly_half : Ly 0 (.str "half") := ⟨.str "half", rfl, by decide +kernel, by simp [PyData.depth]⟩
theorem ly_disc : Ly 0 (.str "disc") := ⟨.str "disc", rfl, by decide +kernel, by simp [PyData.depth]⟩
theorem ly_word (w : Nat) : Ly 0 (.str (wordS w)) := by
  refine ⟨.str (wordS w), rfl, ?_, by simp [PyData.depth]⟩
  match w with
  | 0 => decide +kernel
  | 1 => decide +kernel
  | n + 2 =>
    show (PyData.str "not").canLay0 = true
    decide +kernel
mutual
theorem ly_reg : ∀ r : Reg, Ly (r.dp + 2) r.d
  | .half a b c => (Ly.tup (n := 0) (xs := [.str "half", .int a, .int b, .int c]) fun d hd => by
      simp only [List.mem_cons, List.not_mem_nil, or_false] at hd
      rcases hd with rfl | rfl | rfl | rfl
      · exact ly_half
      all_goals exact Ly.int _).mono (by simp [Reg.dp])
  | .disc x y s => (Ly.tup (n := 2) (xs := [.str "disc", .tup [qD x, qD y], qD s]) fun d hd => by
      simp only [List.mem_cons, List.not_mem_nil, or_false] at hd
      rcases hd with rfl | rfl | rfl
      · exact ly_disc.mono (by decide)
      · exact ly_pt x y
      · exact (ly_q s).mono (by decide)).mono (by simp [Reg.dp])
  | .jn w rs => (Ly.tup (n := regsDp rs + 2) (xs := .str (wordS w) :: regsD rs) fun d hd => by
      rcases List.mem_cons.mp hd with rfl | hd
      · exact (ly_word w).mono (by omega)
      · exact ly_regs rs d hd).mono (by simp only [Reg.dp]; omega)
theorem ly_regs : ∀ rs : List Reg, ∀ d ∈ regsD rs, Ly (regsDp rs + 2) d
  | [] => fun d hd => nomatch hd
  | r :: rs => fun d hd => by
    rcases List.mem_cons.mp (show d ∈ r.d :: regsD rs from hd) with rfl | hd
    · exact (ly_reg r).mono (by simp only [regsDp]; omega)
    · exact (ly_regs rs d hd).mono (by simp only [regsDp]; omega)
end

/-! the stack of a walk through a region: the topmost first -/
abbrev Rk := List (Reg × Nat)
def itR (p : Reg × Nat) : D := .tup [p.1.d, .int (p.2 : Int)]
def stkD (ts : Rk) : List D := (ts.map itR).reverse
def stkSz : Rk → Nat
  | [] => 0
  | t :: ts => t.1.sz + stkSz ts
def stkNp : Rk → Nat
  | [] => 0
  | t :: ts => t.1.np + stkNp ts
theorem stkD_last (t : Reg × Nat) (ts : Rk) : (stkD (t :: ts))[(stkD (t :: ts)).length - 1]? = some (itR t) := by
  unfold stkD
  simp
theorem stkD_drop (t : Reg × Nat) (ts : Rk) : (stkD (t :: ts)).dropLast = stkD ts := by
  unfold stkD
  simp
theorem stkD_push (rs : List Reg) (d : Nat) (ts : Rk) : stkD ts ++ (regsD rs).map (fun x => .tup [x, .int ((d + 1 : Nat) : Int)]) = stkD ((rs.map fun r => (r, d + 1)).reverse ++ ts) := by
  have e : ((rs.map fun r => (r, d + 1)).reverse.map itR).reverse = (regsD rs).map (fun x => .tup [x, .int ((d + 1 : Nat) : Int)]) := by
    rw [← List.map_reverse, List.reverse_reverse, regsD_map, List.map_map, List.map_map]
    rfl
  unfold stkD
  rw [List.map_append, List.reverse_append, e]
theorem stkSz_app : ∀ (a b : Rk), stkSz (a ++ b) = stkSz a + stkSz b
  | [], b => by simp [stkSz]
  | x :: a, b => by simp [stkSz, stkSz_app a b]; omega
theorem stkNp_app : ∀ (a b : Rk), stkNp (a ++ b) = stkNp a + stkNp b
  | [], b => by simp [stkNp]
  | x :: a, b => by simp [stkNp, stkNp_app a b]; omega
theorem stk_push_sz (rs : List Reg) (d : Nat) : stkSz ((rs.map fun r => (r, d)).reverse) = regsSz rs := by
  induction rs with
  | nil => rfl
  | cons r rs ih => simp [stkSz_app, ih, stkSz, regsSz]; omega
theorem stk_push_np (rs : List Reg) (d : Nat) : stkNp ((rs.map fun r => (r, d)).reverse) = regsNp rs := by
  induction rs with
  | nil => rfl
  | cons r rs ih => simp [stkNp_app, ih, stkNp, regsNp]; omega
theorem stk_len : ∀ ts : Rk, ts.length ≤ stkSz ts
  | [] => Nat.le_refl _
  | t :: ts => by
    have h1 := stk_len ts
    have h2 := t.1.sz_pos
    simp only [List.length_cons, stkSz]
    omega
theorem stkD_len (ts : Rk) : (stkD ts).length = ts.length := by unfold stkD; simp
theorem stkD_empty (ts : Rk) : (stkD ts).isEmpty = ts.isEmpty := by
  cases ts with
  | nil => rfl
  | cons t ts => simp [stkD]
theorem ly_stk {n : Nat} {ts : Rk} (h : ∀ t ∈ ts, t.1.dp ≤ n) : Ly (n + 4) (.lst (stkD ts)) := Ly.lst (n := n + 3) fun d hd => by
  unfold stkD at hd
  obtain ⟨t, ht, rfl⟩ := List.mem_map.mp (List.mem_reverse.mp hd)
  refine Ly.tup (n := n + 2) fun e he => ?_
  simp only [List.mem_cons, List.not_mem_nil, or_false] at he
  rcases he with rfl | rfl
  · exact (ly_reg t.1).mono (by have := h t ht; omega)
  · exact (Ly.int _).mono (by omega)

/-- how many words a value has that is a region: the walk's measure -/
noncomputable def stkM (ds : List D) : Nat := by
  classical
  exact if h : ∃ ts : Rk, ds = stkD ts then stkSz (Classical.choose h) else 0
mutual
theorem reg_inj : ∀ r s : Reg, r.d = s.d → r.sz = s.sz
  | .half a b c, .half a' b' c', _ => rfl
  | .half a b c, .disc x y s, _ => rfl
  | .disc x y s, .half a b c, _ => rfl
  | .disc x y s, .disc x' y' s', _ => rfl
  | .half a b c, .jn w rs, h => by
    have h' : [D.str "half", .int a, .int b, .int c] = .str (wordS w) :: regsD rs := by injection h
    injection h' with h1 h2
    exact absurd h2 (fun e => by
      cases rs with
      | nil => cases e
      | cons r rs =>
        injection e with e1 _
        cases r <;> cases e1)
  | .jn w rs, .half a b c, h => by
    have h' : D.str (wordS w) :: regsD rs = [.str "half", .int a, .int b, .int c] := by injection h
    injection h' with h1 h2
    exact absurd h2 (fun e => by
      cases rs with
      | nil => cases e
      | cons r rs =>
        injection e with e1 _
        cases r <;> cases e1)
  | .disc x y s, .jn w rs, h => by
    have h' : [D.str "disc", .tup [qD x, qD y], qD s] = .str (wordS w) :: regsD rs := by injection h
    injection h' with h1 h2
    exact absurd h2 (fun e => by
      cases rs with
      | nil => cases e
      | cons r rs =>
        injection e with e1 _
        cases r with
        | half a b c => injection e1 with e2; injection e2 with e3 _; cases e3
        | disc a b c => injection e1 with e2; injection e2 with e3 _; cases e3
        | jn a b => injection e1 with e2; injection e2 with e3 _; cases e3)
  | .jn w rs, .disc x y s, h => by
    have h' : D.str (wordS w) :: regsD rs = [.str "disc", .tup [qD x, qD y], qD s] := by injection h
    injection h' with h1 h2
    exact absurd h2 (fun e => by
      cases rs with
      | nil => cases e
      | cons r rs =>
        injection e with e1 _
        cases r with
        | half a b c => injection e1 with e2; injection e2 with e3 _; cases e3
        | disc a b c => injection e1 with e2; injection e2 with e3 _; cases e3
        | jn a b => injection e1 with e2; injection e2 with e3 _; cases e3)
  | .jn w rs, .jn w' rs', h => by
    have h' : D.str (wordS w) :: regsD rs = .str (wordS w') :: regsD rs' := by injection h
    injection h' with _ h2
    simp only [Reg.sz, regs_inj rs rs' h2]
theorem regs_inj : ∀ rs ss : List Reg, regsD rs = regsD ss → regsSz rs = regsSz ss
  | [], [], _ => rfl
  | [], s :: ss, h => by cases h
  | r :: rs, [], h => by cases h
  | r :: rs, s :: ss, h => by
    injection (show r.d :: regsD rs = s.d :: regsD ss from h) with h1 h2
    simp only [regsSz, reg_inj r s h1, regs_inj rs ss h2]
end
theorem stk_inj : ∀ ts us : Rk, ts.map itR = us.map itR → stkSz ts = stkSz us
  | [], [], _ => rfl
  | [], u :: us, h => by cases h
  | t :: ts, [], h => by cases h
  | t :: ts, u :: us, h => by
    injection (show itR t :: ts.map itR = itR u :: us.map itR from h) with h1 h2
    have h3 : t.1.d = u.1.d := by
      unfold itR at h1
      injection h1 with h1
      injection h1
    simp only [stkSz, reg_inj t.1 u.1 h3, stk_inj ts us h2]
theorem stkM_eq (ts : Rk) : stkM (stkD ts) = stkSz ts := by
  have h : ∃ us : Rk, stkD ts = stkD us := ⟨ts, rfl⟩
  unfold stkM
  rw [dif_pos h]
  have e := Classical.choose_spec h
  have e2 : ts.map itR = (Classical.choose h).map itR := List.reverse_inj.mp e
  exact (stk_inj _ _ e2).symm
theorem stkM_pop (t : Reg × Nat) (ts : Rk) : stkM (stkD ts) < stkM (stkD (t :: ts)) := by
  rw [stkM_eq, stkM_eq]
  have := t.1.sz_pos
  simp only [stkSz]
  omega
end Pv

set_option Elab.async false
set_option linter.all false
set_option maxRecDepth 100000
/-! Pt: points, patches, the halves of their sides: plain. -/
namespace Pv
open PySem

abbrev Pnt := Rat × Rat
theorem nodup_inj {α β : Type} {f : α → β} (hf : ∀ a b, f a = f b → a = b) {l : List α} (h : l.Nodup) : (l.map f).Nodup :=
  List.pairwise_map.mpr (List.Pairwise.imp (fun {a b} n e => n (hf a b e)) h)
def ptD (p : Pnt) : D := .tup [qD p.1, qD p.2]
def turnQ (a b c : Pnt) : Rat := (b.1 - a.1) * (c.2 - a.2) - (b.2 - a.2) * (c.1 - a.1)
def aheadQ (a b : Pnt) : Prop := a.1 < b.1 ∨ (a.1 = b.1 ∧ a.2 < b.2)
instance (a b : Pnt) : Decidable (aheadQ a b) := by unfold aheadQ; infer_instance
/-- the corner ahead of the one at i -/
def pvI (n i : Nat) : Nat := (i + n - 1) % n
abbrev at0 (ps : List Pnt) (i : Nat) : Pnt := ps.getD i (0, 0)
def PatchP (ps : List Pnt) : Prop := (3 ≤ ps.length ∧ ps.length ≤ 8) ∧ (∀ p ∈ ps.tail, aheadQ (at0 ps 0) p) ∧ (∀ i, i < ps.length → ∀ o ∈ ps, o ≠ at0 ps (pvI ps.length i) → o ≠ at0 ps i → 0 < turnQ (at0 ps (pvI ps.length i)) (at0 ps i) o) ∧ ps.Nodup
instance (ps : List Pnt) : Decidable (PatchP ps) := by unfold PatchP; infer_instance
/-- scaled and moved -/
def trQ (s x y : Rat) (p : Pnt) : Pnt := (p.1 * s + x, p.2 * s + y)
theorem tr_inj {s x y : Rat} (hs : 0 < s) {p q : Pnt} : trQ s x y p = trQ s x y q ↔ p = q := by
  constructor
  · intro h
    unfold trQ at h
    injection h with h1 h2
    have n : s ≠ 0 := fun e => by rw [e] at hs; exact absurd hs (by decide)
    have e1 : p.1 = q.1 := by grind
    have e2 : p.2 = q.2 := by grind
    exact Prod.ext e1 e2
  · intro h; rw [h]
theorem tr_turn {s x y : Rat} (p q o : Pnt) : turnQ (trQ s x y p) (trQ s x y q) (trQ s x y o) = s * s * turnQ p q o := by
  unfold turnQ trQ
  grind
theorem tr_lt {s x a b : Rat} (hs : 0 < s) : a * s + x < b * s + x ↔ a < b := by
  rw [Rat.add_lt_add_right, Rat.mul_lt_mul_right hs]
theorem tr_ahead {s x y : Rat} (hs : 0 < s) (p q : Pnt) (h : aheadQ p q) : aheadQ (trQ s x y p) (trQ s x y q) := by
  rcases h with h | ⟨h1, h2⟩
  · exact .inl ((tr_lt hs).mpr h)
  · exact .inr ⟨by show p.1 * s + x = q.1 * s + x; rw [h1], (tr_lt hs).mpr h2⟩
theorem at0_tr {s x y : Rat} {ps : List Pnt} {i : Nat} (h : i < ps.length) : at0 (ps.map (trQ s x y)) i = trQ s x y (at0 ps i) := by
  unfold at0
  rw [List.getD_eq_getElem?_getD, List.getD_eq_getElem?_getD, List.getElem?_map]
  rw [List.getElem?_eq_getElem h]
  rfl
theorem tr_patch {s x y : Rat} (hs : 0 < s) {ps : List Pnt} (h : PatchP ps) : PatchP (ps.map (trQ s x y)) := by
  obtain ⟨⟨h1, h2⟩, h3, h4, h5⟩ := h
  have s2 : 0 < s * s := Rat.mul_pos hs hs
  refine ⟨⟨by simpa using h1, by simpa using h2⟩, fun p hp => ?_, fun i hi o ho n1 n2 => ?_, ?_⟩
  · rw [← List.map_tail] at hp
    obtain ⟨q, hq, rfl⟩ := List.mem_map.mp hp
    rw [at0_tr (by omega)]
    exact tr_ahead hs _ _ (h3 q hq)
  · obtain ⟨q, hq, rfl⟩ := List.mem_map.mp ho
    simp only [List.length_map] at hi n1 ⊢
    have hp : pvI ps.length i < ps.length := Nat.mod_lt _ (by omega)
    rw [at0_tr hp] at n1 ⊢
    rw [at0_tr hi] at n2 ⊢
    rw [tr_turn]
    exact Rat.mul_pos s2 (h4 i hi q hq (fun e => n1 (by rw [e])) fun e => n2 (by rw [e]))
  · exact nodup_inj (fun a b e => (tr_inj hs).mp e) h5
/-- the drawn shapes -/
def shp (l : List (Int × Int)) : List Pnt := l.map fun p => ((p.1 : Rat), (p.2 : Rat))
def shapes : List (List (Int × Int)) := [[(0, 0), (2, 0), (0, 2)], [(0, 0), (3, -1), (4, 2)], [(0, 0), (2, 0), (2, 2), (0, 2)], [(0, 1), (1, 0), (5, 0), (4, 1)], [(0, 0), (1, -2), (4, -1), (3, 3), (1, 3)], [(0, 0), (2, -1), (4, 0), (4, 3), (2, 4), (0, 3)]]
theorem shapes_ok : ∀ l ∈ shapes, PatchP (shp l) := by decide +kernel

/-! ### values -/
theorem eqD_q (p q : Rat) : eqD (qD p) (qD q) = decide (p = q) := by
  show (decide (p.num = q.num) && (decide ((p.den : Int) = (q.den : Int)) && true)) = _
  rw [Bool.and_true, Bool.eq_iff_iff]
  simp only [Bool.and_eq_true, decide_eq_true_eq]
  exact ⟨fun ⟨a, b⟩ => Rat.ext a (by omega), fun e => by rw [e]; exact ⟨rfl, rfl⟩⟩
theorem eqD_pt (p q : Pnt) : eqD (ptD p) (ptD q) = decide (p = q) := by
  show (eqD (qD p.1) (qD q.1) && (eqD (qD p.2) (qD q.2) && true)) = _
  rw [eqD_q, eqD_q, Bool.and_true, Bool.eq_iff_iff]
  simp only [Bool.and_eq_true, decide_eq_true_eq]
  exact ⟨fun ⟨a, b⟩ => Prod.ext a b, fun e => by rw [e]; exact ⟨rfl, rfl⟩⟩
theorem ly_ptD (p : Pnt) : Ly 2 (ptD p) := ly_pt p.1 p.2
theorem pure_ptD (p : Pnt) : (ptD p).pure = true := rfl
theorem notin_pt (o a b : Pnt) : cmpD .NotIn (ptD o) (.tup [ptD a, ptD b]) = some (!(decide (a = o) || decide (b = o))) := by
  have h1 : okPy (ptD o) = true := (ly_ptD o).ok (by decide)
  have h2 : okPy (.tup [ptD a, ptD b]) = true := (Ly.tup (n := 2) fun d hd => by
    simp only [List.mem_cons, List.not_mem_nil, or_false] at hd
    rcases hd with rfl | rfl <;> exact ly_ptD _).ok (by decide)
  have e : cmpD .NotIn (ptD o) (.tup [ptD a, ptD b]) = if okPy (ptD o) && okPy (.tup [ptD a, ptD b]) then some (!inD (ptD o) [ptD a, ptD b]) else none := rfl
  rw [e, h1, h2]
  show some (!(eqD (ptD a) (ptD o) || (eqD (ptD b) (ptD o) || false))) = _
  rw [eqD_pt, eqD_pt, Bool.or_false]
theorem eq_q (p q : Rat) : cmpD .Eq (qD p) (qD q) = some (decide (p = q)) := by
  show (if okPy (qD p) && okPy (qD q) then some (eqD (qD p) (qD q)) else none) = _
  rw [(ly_q p).ok (by decide), (ly_q q).ok (by decide), eqD_q]
  rfl
/-- a place from the end too -/
theorem atI_pv {α : Type} {xs : List α} {i : Nat} (hi : i < xs.length) : L2.atI xs ((i : Int) - 1) = xs[pvI xs.length i]? := by
  unfold pvI
  cases i with
  | zero =>
    have e1 : (0 + xs.length - 1) % xs.length = xs.length - 1 := by
      rw [Nat.mod_eq_of_lt (by omega)]
      omega
    rw [e1]
    have h1 : ¬ (0 : Int) ≤ ((0 : Nat) : Int) - 1 := by omega
    show L2.atI xs (((0 : Nat) : Int) - 1) = _
    unfold L2.atI L2.ixN
    have h2 : (0 : Int) ≤ ((0 : Nat) : Int) - 1 + (xs.length : Int) := by omega
    have h3 : (((0 : Nat) : Int) - 1 + (xs.length : Int)).toNat = xs.length - 1 := by omega
    rw [show ((0 : Nat) : Int) - 1 = -1 by decide] at h1 h2 h3 ⊢
    have h4 : (1 : Int) ≤ (xs.length : Int) := by omega
    have h5 : (-1 + (xs.length : Int)).toNat = xs.length - 1 := by omega
    simp [h4, h5]
  | succ j =>
    have e1 : (j + 1 + xs.length - 1) % xs.length = j := by
      rw [show j + 1 + xs.length - 1 = j + xs.length by omega, Nat.add_mod_right, Nat.mod_eq_of_lt (by omega)]
    rw [e1]
    have : ((j + 1 : Nat) : Int) - 1 = (j : Int) := by omega
    rw [this]
    have hj : j < xs.length := by omega
    unfold L2.atI L2.ixN
    simp [hj]

/-! ### keys -/
theorem keyD_pt (p : Pnt) : keyD (ptD p) = some [.t [.k (.inl p.1.num), .k (.inl (p.1.den : Int))], .t [.k (.inl p.2.num), .k (.inl (p.2.den : Int))]] := by
  have h : keyOk [.t [.k (.inl p.1.num), .k (.inl (p.1.den : Int))], .t [.k (.inl p.2.num), .k (.inl (p.2.den : Int))]] = true := by
    simp [keyOk, dps, Kd.dp, Kd.pd, pds, PyData.canLay0, PyData.canLayAll0]
  simp [keyD, ptD, qD, kdDs, kdD, h]
theorem keysD_pts : ∀ ps : List Pnt, keysD (ps.map ptD) = some (ps.map fun p => [.t [.k (.inl p.1.num), .k (.inl (p.1.den : Int))], .t [.k (.inl p.2.num), .k (.inl (p.2.den : Int))]])
  | [] => rfl
  | p :: ps => by
    show ((keyD (ptD p)).bind fun k => (keysD (ps.map ptD)).map fun ks => k :: ks) = _
    rw [keyD_pt, keysD_pts ps]
    rfl
theorem distK_nodup : ∀ (ks acc : List (List Kd)), (acc ++ ks).Nodup → ks.foldl addK acc = acc ++ ks
  | [], acc, _ => by simp
  | k :: ks, acc, h => by
    have hk : k ∉ acc := fun hm => by
      rw [List.nodup_append] at h
      exact h.2.2 k hm k List.mem_cons_self rfl
    have e : addK acc k = acc ++ [k] := by
      unfold addK
      rw [if_neg hk]
    rw [List.foldl_cons, e, distK_nodup ks (acc ++ [k]) (by rw [List.append_assoc]; exact h), List.append_assoc]
    rfl
theorem dlen_pts {S : Sto} {ps : List Pnt} (h : ps.Nodup) (hl : ps.length < 100000) : dlenD S (ps.map ptD) = some (.int ((ps.length : Nat) : Int), S) := by
  unfold dlenD
  rw [if_pos (by simpa using hl), keysD_pts]
  have nd : (ps.map fun p => ([.t [.k (.inl p.1.num), .k (.inl (p.1.den : Int))], .t [.k (.inl p.2.num), .k (.inl (p.2.den : Int))]] : List Kd)).Nodup := by
    refine nodup_inj (fun p q e => ?_) h
    injection e with e1 e2
    injection e2 with e2 _
    injection e1 with e1
    injection e2 with e2
    injection e1 with a1 a2
    injection a2 with a2 _
    injection e2 with b1 b2
    injection b2 with b2 _
    injection a1 with a1
    injection a1 with a1
    injection a2 with a2
    injection a2 with a2
    injection b1 with b1
    injection b1 with b1
    injection b2 with b2
    injection b2 with b2
    exact Prod.ext (Rat.ext a1 (by omega)) (Rat.ext b1 (by omega))
  have e := distK_nodup _ [] (by simpa using nd)
  simp only [List.nil_append] at e
  show some (D.int ((distK _).length : Nat), S) = _
  unfold distK
  rw [e, List.length_map]

/-! ### comprehensions and loops -/
theorem compL_fn {α : Type} {f : D → Sto → Option (Option D × Sto)} {V W : α → D} {S : Sto} : ∀ xs : List α, (∀ x ∈ xs, f (V x) S = some (some (W x), S)) → compL f (xs.map V) S = some (xs.map W, S)
  | [], _ => rfl
  | x :: xs, h => compL_cons (h x List.mem_cons_self) (compL_fn xs fun y hy => h y (List.mem_cons_of_mem _ hy))
theorem compL_fl {α : Type} {f : D → Sto → Option (Option D × Sto)} {V W : α → D} {p : α → Bool} {S : Sto} : ∀ xs : List α, (∀ x ∈ xs, f (V x) S = some (if p x then some (W x) else none, S)) → compL f (xs.map V) S = some ((xs.filter p).map W, S)
  | [], _ => rfl
  | x :: xs, h => by
    have e := h x List.mem_cons_self
    have ih := compL_fl xs fun y hy => h y (List.mem_cons_of_mem _ hy)
    rw [List.map_cons, List.filter_cons]
    unfold compL
    rw [e, Option.bind_some, ih]
    cases p x <;> rfl
theorem forL_I {tg : Tg} {f : Rho → Sto → Option (Out × Sto)} (I : Rho → Sto → Prop) : ∀ (ds : List D) (r : Rho) (S : Sto), I r S → (∀ d ∈ ds, ∀ r S, I r S → ∃ r0 r1 S1, asg tg d r = some r0 ∧ f r0 S = some (.nx r1, S1) ∧ I r1 S1) → ∃ r1 S1, forL tg f ds r S = some (.nx r1, S1) ∧ I r1 S1
  | [], r, S, h, _ => ⟨r, S, rfl, h⟩
  | d :: ds, r, S, h, st => by
    obtain ⟨r0, r1, S1, e0, e1, h1⟩ := st d List.mem_cons_self r S h
    obtain ⟨r2, S2, e2, h2⟩ := forL_I I ds r1 S1 h1 fun d hd => st d (List.mem_cons_of_mem _ hd)
    refine ⟨r2, S2, ?_, h2⟩
    show (asg tg d r).bind _ = _
    rw [e0]
    show (f r0 S).bind _ = _
    rw [e1]
    exact e2
theorem enu_mem : ∀ (ps : List Pnt) (n : Nat) (d : D), d ∈ enuL n (ps.map ptD) → ∃ i, i < ps.length ∧ d = .tup [.int ((n + i : Nat) : Int), ptD (at0 ps i)]
  | [], n, d, h => by cases h
  | p :: ps, n, d, h => by
    have h' : d ∈ D.tup [.int (n : Int), ptD p] :: enuL (n + 1) (ps.map ptD) := h
    rcases List.mem_cons.mp h' with rfl | h'
    · exact ⟨0, by simp, rfl⟩
    · obtain ⟨i, hi, rfl⟩ := enu_mem ps (n + 1) d h'
      refine ⟨i + 1, by simpa using hi, ?_⟩
      rw [show n + (i + 1) = n + 1 + i by omega]
      rfl
theorem bools_t {α : Type} : ∀ xs : List α, boolsOf (xs.map fun _ => D.bl true) = some (xs.map fun _ => true)
  | [] => rfl
  | x :: xs => by
    show (boolsOf (xs.map fun _ => D.bl true)).map _ = _
    rw [bools_t xs]
    rfl
theorem all_t {α : Type} (xs : List α) : (xs.map fun _ => true).all id = true := by simp
theorem at0_mem {ps : List Pnt} {i : Nat} (h : i < ps.length) : at0 ps i ∈ ps := by
  unfold at0
  rw [List.getD_eq_getElem?_getD, List.getElem?_eq_getElem h]
  exact List.getElem_mem h
theorem atI_at0 {ps : List Pnt} {i : Nat} (h : i < ps.length) : L2.atI (ps.map ptD) ((i : Int) - 1) = some (ptD (at0 ps (pvI ps.length i))) := by
  have hp : pvI ps.length i < ps.length := Nat.mod_lt _ (by omega)
  have e := atI_pv (xs := ps.map ptD) (i := i) (by simpa using h)
  rw [List.length_map] at e
  rw [e, List.getElem?_map, List.getElem?_eq_getElem hp]
  unfold at0
  rw [List.getD_eq_getElem?_getD, List.getElem?_eq_getElem hp]
  rfl

/-! ### the half of a side -/
def hA (p q : Pnt) : Rat := q.2 - p.2
def hB (p q : Pnt) : Rat := p.1 - q.1
def hC (p q : Pnt) : Rat := hA p q * p.1 + hB p q * p.2
def hM (p q : Pnt) : Int := (hA p q).den * (hB p q).den * (hC p q).den
def h0 (p q : Pnt) : Int := (hA p q).num * (hM p q / (hA p q).den)
def h1 (p q : Pnt) : Int := (hB p q).num * (hM p q / (hB p q).den)
def h2 (p q : Pnt) : Int := (hC p q).num * (hM p q / (hC p q).den)
def hG (p q : Pnt) : Int := Int.gcd (Int.gcd (h0 p q) (h1 p q)) (h2 p q)
def hR (p q : Pnt) : Reg := .half (h0 p q / hG p q) (h1 p q / hG p q) (h2 p q / hG p q)
theorem hM_pos (p q : Pnt) : 0 < hM p q := Int.mul_pos (Int.mul_pos (den_pos' _) (den_pos' _)) (den_pos' _)
theorem scale_up {r : Rat} {M : Int} (h : (r.den : Int) ∣ M) : ((r.num * (M / r.den) : Int) : Rat) = r * (M : Rat) := by
  obtain ⟨k, rfl⟩ := h
  have d := den_pos' r
  rw [Int.mul_ediv_cancel_left _ (by omega), Rat.intCast_mul, Rat.intCast_mul]
  have e := rat_self r
  have n := den_ne r
  generalize ((r.den : Int) : Rat) = b at *
  generalize (r.num : Rat) = a at *
  rw [← e]
  grind
theorem h0_eq (p q : Pnt) : (h0 p q : Rat) = hA p q * (hM p q : Rat) := scale_up (by unfold hM; rw [Int.mul_assoc]; exact ⟨_, rfl⟩)
theorem h1_eq (p q : Pnt) : (h1 p q : Rat) = hB p q * (hM p q : Rat) := scale_up (by unfold hM; rw [Int.mul_assoc, Int.mul_left_comm]; exact ⟨_, rfl⟩)
theorem h2_eq (p q : Pnt) : (h2 p q : Rat) = hC p q * (hM p q : Rat) := scale_up (by unfold hM; rw [Int.mul_comm]; exact ⟨_, rfl⟩)
theorem h_ne {p q : Pnt} (h : p ≠ q) : h0 p q ≠ 0 ∨ h1 p q ≠ 0 := by
  have hm := hM_pos p q
  have mr : (hM p q : Rat) ≠ 0 := fun e => by
    have : hM p q = 0 := by exact_mod_cast e
    omega
  by_cases e : h0 p q = 0
  · refine .inr fun e1 => h ?_
    have f0 := h0_eq p q
    have f1 := h1_eq p q
    rw [e] at f0
    rw [e1] at f1
    have g0 : hA p q = 0 := by
      rcases Rat.mul_eq_zero.mp f0.symm with z | z
      · exact z
      · exact absurd z mr
    have g1 : hB p q = 0 := by
      rcases Rat.mul_eq_zero.mp f1.symm with z | z
      · exact z
      · exact absurd z mr
    unfold hA at g0
    unfold hB at g1
    exact Prod.ext (by grind) (by grind)
  · exact .inl e
theorem hG_pos {p q : Pnt} (h : p ≠ q) : 0 < hG p q := by
  have ne := h_ne h
  unfold hG
  have k : (Int.gcd (h0 p q) (h1 p q) : Int) ≠ 0 := by
    intro z
    have z' : Int.gcd (h0 p q) (h1 p q) = 0 := by omega
    rw [Int.gcd_eq_zero_iff] at z'
    rcases ne with n | n
    · exact n z'.1
    · exact n z'.2
  have := Int.gcd_pos_of_ne_zero_left (h2 p q) k
  omega
theorem hG_bd {p q : Pnt} {n : Nat} (h : p ≠ q) (b0 : Bd n (h0 p q)) (b1 : Bd n (h1 p q)) : Bd n (hG p q) := by
  have d0 : hG p q ∣ h0 p q := Int.dvd_trans (Int.gcd_dvd_left _ _) (Int.gcd_dvd_left _ _)
  have d1 : hG p q ∣ h1 p q := Int.dvd_trans (Int.gcd_dvd_left _ _) (Int.gcd_dvd_right _ _)
  rcases h_ne h with z | z
  · exact b0.le (Nat.le_of_dvd (by omega) (Int.natAbs_dvd_natAbs.mpr d0))
  · exact b1.le (Nat.le_of_dvd (by omega) (Int.natAbs_dvd_natAbs.mpr d1))
theorem div_rat {a g : Int} (hg : 0 < g) (h : g ∣ a) : ((a / g : Int) : Rat) * (g : Rat) = (a : Rat) := by
  rw [← Rat.intCast_mul, Int.ediv_mul_cancel h]
theorem mem_hR {p q : Pnt} (h : p ≠ q) (x y : Rat) : (hR p q).mem x y = decide (0 ≤ turnQ p q (x, y)) := by
  have g := hG_pos h
  have d0 : hG p q ∣ h0 p q := Int.dvd_trans (Int.gcd_dvd_left _ _) (Int.gcd_dvd_left _ _)
  have d1 : hG p q ∣ h1 p q := Int.dvd_trans (Int.gcd_dvd_left _ _) (Int.gcd_dvd_right _ _)
  have d2 : hG p q ∣ h2 p q := Int.gcd_dvd_right _ _
  have r0 := div_rat g d0
  have r1 := div_rat g d1
  have r2 := div_rat g d2
  rw [h0_eq] at r0
  rw [h1_eq] at r1
  rw [h2_eq] at r2
  have gp : (0 : Rat) < (hG p q : Rat) := Rat.intCast_pos.mpr g
  have mp : (0 : Rat) < (hM p q : Rat) := Rat.intCast_pos.mpr (hM_pos p q)
  simp only [hR, Reg.mem]
  rw [decide_eq_decide]
  generalize ((h0 p q / hG p q : Int) : Rat) = a at *
  generalize ((h1 p q / hG p q : Int) : Rat) = b at *
  generalize ((h2 p q / hG p q : Int) : Rat) = c at *
  generalize (hG p q : Rat) = G at *
  generalize (hM p q : Rat) = M at *
  have k1 : a * x + b * y ≤ c ↔ (hA p q * x + hB p q * y) * M ≤ hC p q * M := by
    have e : (hA p q * x + hB p q * y) * M = (a * x + b * y) * G := by grind
    rw [e, ← r2]
    exact ⟨fun z => Rat.mul_le_mul_of_nonneg_right z (Rat.le_of_lt gp), fun z => Rat.le_of_mul_le_mul_right z gp⟩
  rw [k1]
  have k2 : (hA p q * x + hB p q * y) * M ≤ hC p q * M ↔ hA p q * x + hB p q * y ≤ hC p q := ⟨fun z => Rat.le_of_mul_le_mul_right z mp, fun z => Rat.mul_le_mul_of_nonneg_right z (Rat.le_of_lt mp)⟩
  rw [k2, Rat.le_iff_sub_nonneg]
  have e : hC p q - (hA p q * x + hB p q * y) = turnQ p q (x, y) := by
    unfold hC hA hB turnQ
    grind
  rw [e]
theorem hR_ok {m : Nat} {p q : Pnt} (h : p ≠ q) (s1 : Sz m p.1) (s2 : Sz m p.2) (s3 : Sz m q.1) (s4 : Sz m q.2) : (hR p q).ok (16 * m + 8) := by
  have a := s4.sub s2 (Nat.le_refl (m + m + 1))
  have b := s1.sub s3 (Nat.le_refl (m + m + 1))
  have c := (a.mul s1 (Nat.le_refl _)).add (b.mul s2 (Nat.le_refl _)) (Nat.le_refl _)
  have g := hG_pos h
  have bm : Bd (m + m + 1 + (m + m + 1) + (m + m + 1 + m + (m + m + 1 + m) + 1)) (hM p q) := (a.d.mul b.d).mul c.d
  have dv : ∀ (d : Int), 0 < d → Bd (m + m + 1 + (m + m + 1) + (m + m + 1 + m + (m + m + 1 + m) + 1)) (hM p q / d) := fun d hd => bm.le (Int.natAbs_ediv_le_natAbs _ _)
  have b0 : Bd (16 * m + 8) (h0 p q) := (a.n.mul (dv _ (den_pos' _))).mono (by omega)
  have b1 : Bd (16 * m + 8) (h1 p q) := (b.n.mul (dv _ (den_pos' _))).mono (by omega)
  have b2 : Bd (16 * m + 8) (h2 p q) := (c.n.mul (dv _ (den_pos' _))).mono (by omega)
  refine ⟨b0.le (Int.natAbs_ediv_le_natAbs _ _), b1.le (Int.natAbs_ediv_le_natAbs _ _), b2.le (Int.natAbs_ediv_le_natAbs _ _), ?_⟩
  have d0 : hG p q ∣ h0 p q := Int.dvd_trans (Int.gcd_dvd_left _ _) (Int.gcd_dvd_left _ _)
  have d1 : hG p q ∣ h1 p q := Int.dvd_trans (Int.gcd_dvd_left _ _) (Int.gcd_dvd_right _ _)
  have hm := hM_pos p q
  have mr : (hM p q : Rat) ≠ 0 := fun e => by
    have : hM p q = 0 := by exact_mod_cast e
    omega
  by_cases e : h0 p q / hG p q = 0
  · refine .inr fun e1 => h ?_
    have z0 : h0 p q = 0 := by rw [← Int.ediv_mul_cancel d0, e, Int.zero_mul]
    have z1 : h1 p q = 0 := by rw [← Int.ediv_mul_cancel d1, e1, Int.zero_mul]
    have f0 := h0_eq p q
    have f1 := h1_eq p q
    rw [z0] at f0
    rw [z1] at f1
    have g0 : hA p q = 0 := (Rat.mul_eq_zero.mp f0.symm).resolve_right mr
    have g1 : hB p q = 0 := (Rat.mul_eq_zero.mp f1.symm).resolve_right mr
    unfold hA at g0
    unfold hB at g1
    exact Prod.ext (by grind) (by grind)
  · exact .inl e

/-! ### the sides -/
def sides (ps : List Pnt) : List (Pnt × Pnt) := ps.zip (ps.drop 1 ++ ps.take 1)
theorem sides_get {ps : List Pnt} {i : Nat} (h : i < ps.length) : (ps.drop 1 ++ ps.take 1)[i]? = ps[(i + 1) % ps.length]? := by
  rw [List.getElem?_append]
  by_cases e : i + 1 < ps.length
  · rw [if_pos (by rw [List.length_drop]; omega), List.getElem?_drop, Nat.mod_eq_of_lt e, Nat.add_comm]
  · have e' : i + 1 = ps.length := by omega
    rw [if_neg (by rw [List.length_drop]; omega), e', Nat.mod_self, List.length_drop, List.getElem?_take, if_pos (by omega), show i - (ps.length - 1) = 0 by omega]
theorem sides_len (ps : List Pnt) (h : 1 ≤ ps.length) : (sides ps).length = ps.length := by
  unfold sides
  rw [List.length_zip, List.length_append, List.length_drop, List.length_take]
  omega
theorem sides_at {ps : List Pnt} {s : Pnt × Pnt} (h : s ∈ sides ps) : ∃ i, i < ps.length ∧ ps[i]? = some s.1 ∧ ps[(i + 1) % ps.length]? = some s.2 := by
  obtain ⟨i, hi⟩ := List.mem_iff_getElem?.mp h
  unfold sides at hi
  rw [List.getElem?_zip_eq_some] at hi
  obtain ⟨h1, h2⟩ := hi
  have hl : i < ps.length := (List.getElem?_eq_some_iff.mp h1).1
  exact ⟨i, hl, h1, by rw [← sides_get hl]; exact h2⟩
theorem sides_ne {ps : List Pnt} (hn : ps.Nodup) (h2 : 2 ≤ ps.length) {s : Pnt × Pnt} (h : s ∈ sides ps) : s.1 ≠ s.2 := by
  obtain ⟨i, hi, e1, e2⟩ := sides_at h
  intro e
  rw [e] at e1
  have k : (i + 1) % ps.length < ps.length := Nat.mod_lt _ (by omega)
  have := (List.getElem?_inj hi hn).mp (e1.trans e2.symm)
  by_cases q : i + 1 < ps.length
  · rw [Nat.mod_eq_of_lt q] at this
    omega
  · rw [show i + 1 = ps.length by omega, Nat.mod_self] at this
    omega
theorem sides_mem {ps : List Pnt} {s : Pnt × Pnt} (h : s ∈ sides ps) : s.1 ∈ ps ∧ s.2 ∈ ps := by
  obtain ⟨i, hi, e1, e2⟩ := sides_at h
  exact ⟨List.mem_of_getElem? e1, List.mem_of_getElem? e2⟩
theorem zip_pt : ∀ ps qs : List Pnt, zipL (ps.map ptD) (qs.map ptD) = (ps.zip qs).map fun s => .tup [ptD s.1, ptD s.2]
  | [], _ => rfl
  | p :: ps, [] => rfl
  | p :: ps, q :: qs => by
    show D.tup [ptD p, ptD q] :: zipL (ps.map ptD) (qs.map ptD) = _
    rw [zip_pt ps qs]
    rfl
def rgP (ps : List Pnt) : Reg := .jn 0 ((sides ps).map fun s => hR s.1 s.2)
theorem hR_np (p q : Pnt) : (hR p q).np = 1 ∧ (hR p q).sz = 1 ∧ (hR p q).dp = 1 := ⟨rfl, rfl, rfl⟩
theorem npL : ∀ l : List (Pnt × Pnt), regsNp (l.map fun s => hR s.1 s.2) = l.length
  | [] => rfl
  | s :: l => by simp only [List.map_cons, regsNp, npL l, hR_np, List.length_cons]; omega
theorem szL : ∀ l : List (Pnt × Pnt), regsSz (l.map fun s => hR s.1 s.2) = l.length
  | [] => rfl
  | s :: l => by simp only [List.map_cons, regsSz, szL l, hR_np, List.length_cons]; omega
theorem dpL : ∀ l : List (Pnt × Pnt), regsDp (l.map fun s => hR s.1 s.2) ≤ 1
  | [] => by simp [regsDp]
  | s :: l => by
    have := dpL l
    simp only [List.map_cons, regsDp, hR_np]
    omega
theorem rgP_ok {m : Nat} {ps : List Pnt} (h : PatchP ps) (hs : ∀ p ∈ ps, Sz m p.1 ∧ Sz m p.2) : (rgP ps).ok (16 * m + 8) ∧ (rgP ps).dp ≤ 2 ∧ (rgP ps).np ≤ 8 ∧ (rgP ps).sz ≤ 9 := by
  obtain ⟨⟨a, b⟩, _, _, nd⟩ := h
  have l := sides_len ps (by omega)
  refine ⟨⟨by rw [List.length_map]; omega, by rw [List.length_map]; omega, by omega, fun e => by omega, regsOk_of fun r hr => ?_⟩, ?_, ?_, ?_⟩
  · obtain ⟨s, h', rfl⟩ := List.mem_map.mp hr
    obtain ⟨m1, m2⟩ := sides_mem h'
    exact hR_ok (sides_ne nd (by omega) h') (hs _ m1).1 (hs _ m1).2 (hs _ m2).1 (hs _ m2).2
  · have := dpL (sides ps)
    simp only [rgP, Reg.dp]
    omega
  · simp only [rgP, Reg.np, npL]
    omega
  · simp only [rgP, Reg.sz, szL]
    omega
theorem rgP_d (ps : List Pnt) : (rgP ps).d = .tup (.str "and" :: (sides ps).map fun s => (hR s.1 s.2).d) := by
  unfold rgP Reg.d
  rw [regsD_map, List.map_map]
  rfl
theorem rgP_mem {ps : List Pnt} (h : PatchP ps) (x y : Rat) : (rgP ps).mem x y = ((sides ps).map fun s => decide (0 ≤ turnQ s.1 s.2 (x, y))).all id := by
  show (regsMem x y ((sides ps).map fun s => hR s.1 s.2)).all id = _
  rw [regsMem_map, List.map_map]
  congr 1
  refine List.map_congr_left fun s hs => ?_
  exact mem_hR (sides_ne h.2.2.2 (by have := h.1.1; omega) hs) x y
end Pv

set_option Elab.async false
set_option linter.all false
set_option maxRecDepth 100000
/-! SndA: how values D lie in the heap; steps; names. -/
namespace Pv
open PySem PySem.Spec PyProof.Rows L2
abbrev Slots := L2.St

section
variable (K : PySem.W.Frag) (fa : Nat → Addr) (G : Hp) (B : List Addr)
mutual
def Dat : V → D → Prop
  | v, .non => v = .non
  | v, .bl b => v = .bl b
  | v, .int i => v = .int i
  | v, .str s => v = .str s
  | v, .tup ds => ∃ a vs, v = .ref a ∧ SqT K G a vs ∧ Dats vs ds
  | v, .lst ds => ∃ a vs, v = .ref a ∧ G a = some (.lst vs) ∧ Dats vs ds
  | v, .fz ds => ∃ a vs, v = .ref a ∧ SqL K G a vs ∧ Dats vs ds
  | v, .ref n => ∃ a, v = .ref a ∧ B[n]? = some a
  | v, .fn j => v = .ref (fa j)
def Dats : List V → List D → Prop
  | vs, [] => vs = []
  | vs, d :: ds => ∃ v r, vs = v :: r ∧ Dat v d ∧ Dats r ds
end
end

section
variable {K : PySem.W.Frag} {fa : Nat → Addr} {G G' H H' : Hp} {B B' : List Addr}

theorem _root_.L2.Rd.up (k : ∀ a o, G a = some o → G' a = some o) {a : Addr} {u : HO} (h : Rd G a u) : Rd G' a u := by
  rcases h with h | ⟨o, h⟩
  · exact .inl (k _ _ h)
  · exact .inr ⟨o, k _ _ h⟩
theorem _root_.L2.SqL.up (k : ∀ a o, G a = some o → G' a = some o) {a : Addr} {xs : List V} (h : SqL K G a xs) : SqL K G' a xs := by
  rcases h with h | h
  · exact .inl (Rd.up k h)
  · exact .inr h
theorem _root_.L2.SqT.up (k : ∀ a o, G a = some o → G' a = some o) {a : Addr} {xs : List V} (h : SqT K G a xs) : SqT K G' a xs := by
  rcases h with h | h
  · exact .inl (Rd.up k h)
  · exact .inr h
mutual
theorem Dat.up (k : ∀ a o, G a = some o → G' a = some o) (e : ∃ C, B' = B ++ C) : ∀ (d : D) (v : V), Dat K fa G B v d → Dat K fa G' B' v d
  | .non, _, h => h
  | .bl _, _, h => h
  | .int _, _, h => h
  | .str _, _, h => h
  | .tup ds, _, h => by
    obtain ⟨a, vs, e1, h1, h2⟩ := h
    exact ⟨a, vs, e1, SqT.up k h1, Dats.up k e ds vs h2⟩
  | .lst ds, _, h => by
    obtain ⟨a, vs, e1, h1, h2⟩ := h
    exact ⟨a, vs, e1, k _ _ h1, Dats.up k e ds vs h2⟩
  | .fz ds, _, h => by
    obtain ⟨a, vs, e1, h1, h2⟩ := h
    exact ⟨a, vs, e1, SqL.up k h1, Dats.up k e ds vs h2⟩
  | .ref n, _, h => by
    obtain ⟨a, e1, h1⟩ := h
    obtain ⟨C, rfl⟩ := e
    exact ⟨a, e1, by rw [List.getElem?_append_left (List.getElem?_eq_some_iff.mp h1).1]; exact h1⟩
  | .fn _, _, h => h
theorem Dats.up (k : ∀ a o, G a = some o → G' a = some o) (e : ∃ C, B' = B ++ C) : ∀ (ds : List D) (vs : List V), Dats K fa G B vs ds → Dats K fa G' B' vs ds
  | [], _, h => h
  | d :: ds, _, h => by
    obtain ⟨v, r, e1, h1, h2⟩ := h
    exact ⟨v, r, e1, Dat.up k e d v h1, Dats.up k e ds r h2⟩
end
theorem Dats.length : ∀ (ds : List D) (vs : List V), Dats K fa G B vs ds → vs.length = ds.length
  | [], _, h => by cases h; rfl
  | d :: ds, _, h => by
    obtain ⟨v, r, rfl, _, h2⟩ := h
    simp [Dats.length ds r h2]
theorem Dats.get : ∀ {ds : List D} {vs : List V} {i : Nat} {d : D}, Dats K fa G B vs ds → ds[i]? = some d → ∃ v, vs[i]? = some v ∧ Dat K fa G B v d
  | [], _, _, _, _, e => by simp at e
  | d :: ds, _, 0, _, h, e => by
    obtain ⟨v, r, rfl, h1, h2⟩ := h
    simp at e; subst e; exact ⟨v, rfl, h1⟩
  | d :: ds, _, i + 1, _, h, e => by
    obtain ⟨v, r, rfl, h1, h2⟩ := h
    obtain ⟨w, e1, q⟩ := Dats.get (i := i) h2 (by simpa using e)
    exact ⟨w, by simpa using e1, q⟩
theorem Dats.get' : ∀ {ds : List D} {vs : List V} {i : Nat} {v : V}, Dats K fa G B vs ds → vs[i]? = some v → ∃ d, ds[i]? = some d ∧ Dat K fa G B v d
  | [], _, _, _, h, e => by cases h; simp at e
  | d :: ds, _, 0, _, h, e => by
    obtain ⟨v, r, rfl, h1, h2⟩ := h
    simp at e; subst e; exact ⟨d, rfl, h1⟩
  | d :: ds, _, i + 1, _, h, e => by
    obtain ⟨v, r, rfl, h1, h2⟩ := h
    obtain ⟨w, e1, q⟩ := Dats.get' (i := i) h2 (by simpa using e)
    exact ⟨w, by simpa using e1, q⟩
theorem Dats.app : ∀ {ds es : List D} {vs ws : List V}, Dats K fa G B vs ds → Dats K fa G B ws es → Dats K fa G B (vs ++ ws) (ds ++ es)
  | [], _, _, _, h, q => by cases h; exact q
  | d :: ds, _, _, _, h, q => by
    obtain ⟨v, r, rfl, h1, h2⟩ := h
    exact ⟨v, r ++ _, rfl, h1, Dats.app h2 q⟩
theorem Dats.take : ∀ {ds : List D} {vs : List V} (n : Nat), Dats K fa G B vs ds → Dats K fa G B (vs.take n) (ds.take n)
  | _, _, 0, _ => rfl
  | [], _, n + 1, h => by cases h; rfl
  | d :: ds, _, n + 1, h => by
    obtain ⟨v, r, rfl, h1, h2⟩ := h
    exact ⟨v, _, rfl, h1, Dats.take n h2⟩
theorem Dats.drop : ∀ {ds : List D} {vs : List V} (n : Nat), Dats K fa G B vs ds → Dats K fa G B (vs.drop n) (ds.drop n)
  | _, _, 0, h => h
  | [], _, n + 1, h => by cases h; rfl
  | d :: ds, _, n + 1, h => by
    obtain ⟨v, r, rfl, h1, h2⟩ := h
    exact Dats.drop n h2
theorem Dats.one {v : V} {d : D} (h : Dat K fa G B v d) : Dats K fa G B [v] [d] := ⟨v, [], rfl, h, rfl⟩
theorem Dats.rev : ∀ {ds : List D} {vs : List V}, Dats K fa G B vs ds → Dats K fa G B vs.reverse ds.reverse
  | [], _, h => by cases h; rfl
  | d :: ds, _, h => by
    obtain ⟨v, r, rfl, h1, h2⟩ := h
    rw [List.reverse_cons, List.reverse_cons]
    exact Dats.app (Dats.rev h2) (Dats.one h1)
theorem Dats.set : ∀ {ds : List D} {vs : List V} {v : V} {d : D} (j : Nat), Dats K fa G B vs ds → Dat K fa G B v d → Dats K fa G B (vs.set j v) (ds.set j d)
  | [], _, _, _, _, h, _ => by cases h; rfl
  | d :: ds, _, _, _, 0, h, q => by
    obtain ⟨v, r, rfl, h1, h2⟩ := h
    exact ⟨_, r, rfl, q, h2⟩
  | d :: ds, _, _, _, j + 1, h, q => by
    obtain ⟨v, r, rfl, h1, h2⟩ := h
    exact ⟨v, _, rfl, h1, Dats.set j h2 q⟩

/-! what is without places of the store does not lean on the places -/
mutual
theorem Dat.nob : ∀ (d : D) (v : V), d.pure = true → Dat K fa G B v d → Dat K fa G B' v d
  | .non, _, _, h => h
  | .bl _, _, _, h => h
  | .int _, _, _, h => h
  | .str _, _, _, h => h
  | .tup ds, _, p, h => by
    obtain ⟨a, vs, e1, h1, h2⟩ := h
    exact ⟨a, vs, e1, h1, Dats.nob ds vs p h2⟩
  | .lst ds, _, p, h => by
    obtain ⟨a, vs, e1, h1, h2⟩ := h
    exact ⟨a, vs, e1, h1, Dats.nob ds vs p h2⟩
  | .fz ds, _, p, h => by
    obtain ⟨a, vs, e1, h1, h2⟩ := h
    exact ⟨a, vs, e1, h1, Dats.nob ds vs p h2⟩
  | .ref n, _, p, h => by cases p
  | .fn _, _, _, h => h
theorem Dats.nob : ∀ (ds : List D) (vs : List V), pures ds = true → Dats K fa G B vs ds → Dats K fa G B' vs ds
  | [], _, _, h => h
  | d :: ds, _, p, h => by
    obtain ⟨v, r, e1, h1, h2⟩ := h
    have p' : (d.pure && pures ds) = true := p
    rw [Bool.and_eq_true] at p'
    exact ⟨v, r, e1, Dat.nob d v p'.1 h1, Dats.nob ds r p'.2 h2⟩
end

mutual
theorem Dat.dp (k : ∀ a o, G a = some o → H a = some o) : ∀ (d : D) (v : V) (p : PyData), d.py = some p → Dat K fa G B v d → Dp K H v p
  | .non, _, p, e, h => by cases e; cases h; exact .non
  | .bl b, _, p, e, h => by cases e; cases h; exact .bl b
  | .int i, _, p, e, h => by cases e; cases h; exact .int i
  | .str s, _, p, e, h => by cases e; cases h; exact .str s
  | .tup ds, _, p, e, h => by
    obtain ⟨a, vs, rfl, h1, h2⟩ := h
    have e' : (pys ds).map PyData.tuple = some p := e
    obtain ⟨ps, hp, rfl⟩ := Option.map_eq_some_iff.mp e'
    exact .tup (SqT.up k h1) (Dats.dp k ds vs ps hp h2)
  | .lst ds, _, p, e, h => by
    obtain ⟨a, vs, rfl, h1, h2⟩ := h
    have e' : (pys ds).map PyData.list = some p := e
    obtain ⟨ps, hp, rfl⟩ := Option.map_eq_some_iff.mp e'
    exact .lst (.of (k _ _ h1)) (Dats.dp k ds vs ps hp h2)
  | .fz n, _, p, e, h => by cases e
  | .ref n, _, p, e, h => by cases e
  | .fn n, _, p, e, h => by cases e
theorem Dats.dp (k : ∀ a o, G a = some o → H a = some o) : ∀ (ds : List D) (vs : List V) (ps : List PyData), pys ds = some ps → Dats K fa G B vs ds → DpAll K H vs ps
  | [], _, ps, e, h => by cases e; cases h; exact .nil
  | d :: ds, _, ps, e, h => by
    obtain ⟨v, r, rfl, h1, h2⟩ := h
    have e' : (d.py.bind fun y => (pys ds).map fun ys => y :: ys) = some ps := e
    obtain ⟨y, hy, e2⟩ := Option.bind_eq_some_iff.mp e'
    obtain ⟨ys, hys, rfl⟩ := Option.map_eq_some_iff.mp e2
    exact .cons (Dat.dp k d v y hy h1) (Dats.dp k ds r ys hys h2)
end

mutual
theorem eqD_py : ∀ (d e : D) (p q : PyData), d.py = some p → e.py = some q → eqD d e = PyData.eqv p q
  | d, e, p, q, hd, he => by
    cases d with
    | non => cases hd; cases e <;> first | (cases he; rfl) | (obtain ⟨ps, hp, rfl⟩ := Option.map_eq_some_iff.mp he; rfl) | cases he
    | bl b =>
      cases hd
      cases e <;> first | (cases he; rfl) | (cases he; exact (Bool.beq_eq_decide_eq _ _).symm) | (obtain ⟨ps, hp, rfl⟩ := Option.map_eq_some_iff.mp he; rfl) | cases he
    | int i =>
      cases hd
      cases e <;> first | (cases he; rfl) | (cases he; exact (Bool.beq_eq_decide_eq _ _).symm) | (obtain ⟨ps, hp, rfl⟩ := Option.map_eq_some_iff.mp he; rfl) | cases he
    | str s =>
      cases hd
      cases e <;> first | (cases he; rfl) | (cases he; exact (Bool.beq_eq_decide_eq _ _).symm) | (obtain ⟨ps, hp, rfl⟩ := Option.map_eq_some_iff.mp he; rfl) | cases he
    | tup xs =>
      obtain ⟨ps, hp, rfl⟩ := Option.map_eq_some_iff.mp hd
      cases e with
      | tup ys =>
        obtain ⟨qs, hq, rfl⟩ := Option.map_eq_some_iff.mp he
        exact eqDs_py xs ys ps qs hp hq
      | lst ys => obtain ⟨qs, hq, rfl⟩ := Option.map_eq_some_iff.mp he; rfl
      | _ => cases he <;> rfl
    | lst xs =>
      obtain ⟨ps, hp, rfl⟩ := Option.map_eq_some_iff.mp hd
      cases e with
      | lst ys =>
        obtain ⟨qs, hq, rfl⟩ := Option.map_eq_some_iff.mp he
        exact eqDs_py xs ys ps qs hp hq
      | tup ys => obtain ⟨qs, hq, rfl⟩ := Option.map_eq_some_iff.mp he; rfl
      | _ => cases he <;> rfl
    | ref n => cases hd
    | fz n => cases hd
    | fn n => cases hd
theorem eqDs_py : ∀ (xs ys : List D) (ps qs : List PyData), pys xs = some ps → pys ys = some qs → eqDs xs ys = PyData.eqvAll ps qs
  | [], [], _, _, h, h' => by cases h; cases h'; rfl
  | [], y :: ys, ps, qs, h, h' => by
    cases h
    obtain ⟨z, hz, e2⟩ := Option.bind_eq_some_iff.mp h'
    obtain ⟨zs, hzs, rfl⟩ := Option.map_eq_some_iff.mp e2
    rfl
  | x :: xs, [], ps, qs, h, h' => by
    cases h'
    obtain ⟨z, hz, e2⟩ := Option.bind_eq_some_iff.mp h
    obtain ⟨zs, hzs, rfl⟩ := Option.map_eq_some_iff.mp e2
    rfl
  | x :: xs, y :: ys, ps, qs, h, h' => by
    obtain ⟨z, hz, e2⟩ := Option.bind_eq_some_iff.mp h
    obtain ⟨zs, hzs, rfl⟩ := Option.map_eq_some_iff.mp e2
    obtain ⟨u, hu, e3⟩ := Option.bind_eq_some_iff.mp h'
    obtain ⟨us, hus, rfl⟩ := Option.map_eq_some_iff.mp e3
    show (eqD x y && eqDs xs ys) = (PyData.eqv z u && PyData.eqvAll zs us)
    rw [eqD_py x y z u hz hu, eqDs_py xs ys zs us hzs hus]
end

/-! ### the store, the steps, the names -/
structure RelH (K : PySem.W.Frag) (fa : Nat → Addr) (S : Sto) (H G : Hp) (B : List Addr) : Prop where
  sub : ∀ a o, G a = some o → H a = some o
  len : B.length = S.length
  nd : B.Nodup
  at_ : ∀ (n : Nat) (ds : List D), S[n]? = some ds → ∃ a vs, B[n]? = some a ∧ H a = some (.lst vs) ∧ G a = none ∧ Dats K fa G B vs ds ∧ pures ds = true

structure Stp (H G : Hp) (B : List Addr) (H' G' : Hp) (B' : List Addr) : Prop where
  keep : ∀ a o, H a = some o → a ∉ B → H' a = some o
  liv : ∀ a, H a ≠ none → H' a ≠ none
  sub : ∀ a o, G a = some o → G' a = some o
  fr : ∀ a o, G' a = some o → G a = some o ∨ H a = none
  pre : ∃ C, B' = B ++ C ∧ ∀ a ∈ C, H a = none

theorem Stp.refl : Stp H G B H G B := ⟨fun _ _ h _ => h, fun _ h => h, fun _ _ h => h, fun _ _ h => .inl h, [], by simp, by simp⟩
theorem Stp.trans {H1 H2 H3 G1 G2 G3 : Hp} {B1 B2 B3 : List Addr} (a : Stp H1 G1 B1 H2 G2 B2) (b : Stp H2 G2 B2 H3 G3 B3) : Stp H1 G1 B1 H3 G3 B3 := by
  obtain ⟨C, rfl, hC⟩ := a.pre
  obtain ⟨C', rfl, hC'⟩ := b.pre
  have nn : ∀ x, H2 x = none → H1 x = none := fun x h => by
    cases q : H1 x with
    | none => rfl
    | some o => exact absurd h (a.liv x (by rw [q]; simp))
  refine ⟨fun x o h n => b.keep x o (a.keep x o h n) fun z => ?_, fun x h => b.liv x (a.liv x h), fun x o h => b.sub x o (a.sub x o h), fun x o h => ?_, C ++ C', by simp, fun x h => ?_⟩
  · rcases List.mem_append.mp z with z | z
    · exact n z
    · rw [hC x z] at h; cases h
  · rcases b.fr x o h with q | q
    · exact a.fr x o q
    · exact .inr (nn x q)
  · rcases List.mem_append.mp h with z | z
    · exact hC x z
    · exact nn x (hC' x z)

theorem Stp.ext {H' G' : Hp} (s : Stp H G B H' G' B') : ∃ C, B' = B ++ C := let ⟨C, e, _⟩ := s.pre; ⟨C, e⟩
theorem Stp.dat {H' G' : Hp} {v : V} {d : D} (s : Stp H G B H' G' B') (h : Dat K fa G B v d) : Dat K fa G' B' v d := Dat.up s.sub s.ext d v h
theorem Stp.dats {H' G' : Hp} {vs : List V} {ds : List D} (s : Stp H G B H' G' B') (h : Dats K fa G B vs ds) : Dats K fa G' B' vs ds := Dats.up s.sub s.ext ds vs h

variable {S : Sto} {p : Addr} {o : HO}
theorem RelH.Bsome (R : RelH K fa S H G B) {a : Addr} (h : a ∈ B) : ∃ vs, H a = some (.lst vs) ∧ G a = none := by
  obtain ⟨n, hn, e⟩ := List.mem_iff_getElem.mp h
  have hs : n < S.length := by rw [← R.len]; exact hn
  obtain ⟨a', vs, e1, e2, e3, _⟩ := R.at_ n S[n] (by simp [hs])
  have : B[n]? = some a := by simp [hn, e]
  rw [this] at e1; cases e1
  exact ⟨vs, e2, e3⟩
theorem RelH.nB (R : RelH K fa S H G B) (h : H p = none) : p ∉ B := fun z => by
  obtain ⟨vs, e, _⟩ := R.Bsome z
  rw [h] at e; cases e
theorem RelH.nG (R : RelH K fa S H G B) (h : H p = none) : G p = none := by
  cases q : G p with
  | none => rfl
  | some o => rw [R.sub p o q] at h; cases h
/-- a new object that never changes -/
theorem RelH.lay (R : RelH K fa S H G B) (h : H p = none) : Stp H G B (upd H p o) (upd G p o) B ∧ RelH K fa S (upd H p o) (upd G p o) B := by
  have hG := R.nG h
  have kH : ∀ a u, H a = some u → upd H p o a = some u := fun a u e => by rw [upd_ne (ne_of_none e h)]; exact e
  have kG : ∀ a u, G a = some u → upd G p o a = some u := fun a u e => by rw [upd_ne (ne_of_none e hG)]; exact e
  refine ⟨⟨fun a u e _ => kH a u e, fun a e => ?_, kG, fun a u e => ?_, [], by simp, by simp⟩, ⟨fun a u e => ?_, R.len, R.nd, fun n ds e => ?_⟩⟩
  · cases q : H a with
    | none => exact absurd q e
    | some u => rw [kH a u q]; simp
  · by_cases z : a = p
    · subst z; exact .inr h
    · rw [upd_ne z] at e; exact .inl e
  · by_cases z : a = p
    · subst z; rw [upd_same] at e ⊢; exact e
    · rw [upd_ne z] at e ⊢; exact R.sub a u e
  · obtain ⟨a, vs, e1, e2, e3, e4, e5⟩ := R.at_ n ds e
    exact ⟨a, vs, e1, kH _ _ e2, by rw [upd_ne (ne_of_none e2 h)]; exact e3, Dats.up kG ⟨[], by simp⟩ ds vs e4, e5⟩
/-- a new object that may change -/
theorem RelH.layF (R : RelH K fa S H G B) (h : H p = none) : Stp H G B (upd H p o) G B ∧ RelH K fa S (upd H p o) G B := by
  have hG := R.nG h
  have kH : ∀ a u, H a = some u → upd H p o a = some u := fun a u e => by rw [upd_ne (ne_of_none e h)]; exact e
  refine ⟨⟨fun a u e _ => kH a u e, fun a e => ?_, fun _ _ e => e, fun a u e => .inl e, [], by simp, by simp⟩, ⟨fun a u e => kH a u (R.sub a u e), R.len, R.nd, fun n ds e => ?_⟩⟩
  · cases q : H a with
    | none => exact absurd q e
    | some u => rw [kH a u q]; simp
  · obtain ⟨a, vs, e1, e2, e3, e4, e5⟩ := R.at_ n ds e
    exact ⟨a, vs, e1, kH _ _ e2, e3, e4, e5⟩
/-- a new list with a place in the store -/
theorem RelH.layB (R : RelH K fa S H G B) (h : H p = none) {vs : List V} {ds : List D} (hd : Dats K fa G B vs ds) (hp : pures ds = true) :
    Stp H G B (upd H p (.lst vs)) G (B ++ [p]) ∧ RelH K fa (S ++ [ds]) (upd H p (.lst vs)) G (B ++ [p]) := by
  have hG := R.nG h
  have kH : ∀ a u, H a = some u → upd H p (.lst vs) a = some u := fun a u e => by rw [upd_ne (ne_of_none e h)]; exact e
  refine ⟨⟨fun a u e _ => kH a u e, fun a e => ?_, fun _ _ e => e, fun a u e => .inl e, [p], rfl, by simpa using h⟩, ⟨fun a u e => kH a u (R.sub a u e), by simp [R.len], ?_, fun n es e => ?_⟩⟩
  · cases q : H a with
    | none => exact absurd q e
    | some u => rw [kH a u q]; simp
  · exact List.nodup_append.mpr ⟨R.nd, by simp, fun a ha b hb => by
      have e : b = p := by simpa using hb
      subst e
      exact fun z => R.nB h (z ▸ ha)⟩
  · by_cases hn : n < S.length
    · rw [List.getElem?_append_left hn] at e
      obtain ⟨a, ws, e1, e2, e3, e4, e5⟩ := R.at_ n es e
      exact ⟨a, ws, by rw [List.getElem?_append_left (by rw [R.len]; exact hn)]; exact e1, kH _ _ e2, e3, Dats.up (fun _ _ q => q) ⟨[p], rfl⟩ es ws e4, e5⟩
    · rw [List.getElem?_append_right (by omega)] at e
      have hz : n - S.length = 0 := by
        cases q : n - S.length with
        | zero => rfl
        | succ m => rw [q] at e; simp at e
      rw [hz] at e
      have e' : ds = es := by simpa using e
      subst e'
      exact ⟨p, vs, by rw [List.getElem?_append_right (by rw [R.len]; omega), R.len, hz]; rfl, upd_same, hG, Dats.up (fun _ _ q => q) ⟨[p], rfl⟩ ds vs hd, hp⟩
/-- a list with a place is written -/
theorem RelH.wr (R : RelH K fa S H G B) {n : Nat} {a : Addr} {vs : List V} {ds : List D} (hb : B[n]? = some a) (hd : Dats K fa G B vs ds) (hp : pures ds = true) :
    Stp H G B (upd H a (.lst vs)) G B ∧ RelH K fa (S.set n ds) (upd H a (.lst vs)) G B := by
  have ha : a ∈ B := List.mem_of_getElem? hb
  obtain ⟨ws, hw, hg⟩ := R.Bsome ha
  have kH : ∀ b u, H b = some u → b ≠ a → upd H a (.lst vs) b = some u := fun b u e z => by rw [upd_ne z]; exact e
  refine ⟨⟨fun b u e nb => kH b u e fun z => nb (z ▸ ha), fun b e => ?_, fun _ _ e => e, fun b u e => .inl e, [], by simp, by simp⟩, ⟨fun b u e => kH b u (R.sub b u e) fun z => (by subst z; rw [hg] at e; cases e), by simp [R.len], R.nd, fun m es e => ?_⟩⟩
  · by_cases z : b = a
    · subst z; rw [upd_same]; simp
    · rw [upd_ne z]; exact e
  · have hm : m < S.length := by
      have := (List.getElem?_eq_some_iff.mp e).1
      simpa using this
    by_cases hmn : m = n
    · subst hmn
      rw [List.getElem?_set_self hm] at e
      cases e
      exact ⟨a, vs, hb, upd_same, hg, hd, hp⟩
    · rw [List.getElem?_set_ne (Ne.symm hmn)] at e
      obtain ⟨b, us, e1, e2, e3, e4, e5⟩ := R.at_ m es e
      refine ⟨b, us, e1, kH _ _ e2 fun z => hmn ?_, e3, e4, e5⟩
      subst z
      obtain ⟨h1, q1⟩ := List.getElem?_eq_some_iff.mp e1
      obtain ⟨h2, q2⟩ := List.getElem?_eq_some_iff.mp hb
      exact (List.getElem_inj R.nd).mp (q1.trans q2.symm)

/-- one name: owned, or a value -/
def SlotOk (K : PySem.W.Frag) (fa : Nat → Addr) (H0 H G : Hp) (B : List Addr) (v : V) : Bool → D → Prop
  | true, d => ∃ a vs ds, v = .ref a ∧ d = .lst ds ∧ H a = some (.lst vs) ∧ G a = none ∧ a ∉ B ∧ H0 a = none ∧ Dats K fa G B vs ds
  | false, d => Dat K fa G B v d
structure RelR (K : PySem.W.Frag) (fa : Nat → Addr) (H0 : Hp) (r : Rho) (σ : Slots) (H G : Hp) (B : List Addr) : Prop where
  len : r.length = σ.length
  at_ : ∀ (i : Nat) (own : Bool) (d : D), r[i]? = some (some (own, d)) → ∃ v, σ[i]? = some (some v) ∧ SlotOk K fa H0 H G B v own d
  dist : ∀ (i j : Nat) (d e : D), r[i]? = some (some (true, d)) → r[j]? = some (some (true, e)) → i ≠ j → σ[i]? ≠ σ[j]?

variable {H0 : Hp} {r : Rho} {σ : Slots}
theorem SlotOk.step {H' G' : Hp} {v : V} {own : Bool} {d : D} (s : Stp H G B H' G' B') (h : SlotOk K fa H0 H G B v own d) : SlotOk K fa H0 H' G' B' v own d := by
  cases own with
  | false => exact s.dat h
  | true =>
    obtain ⟨a, vs, ds, rfl, rfl, h1, h2, h3, h4, h5⟩ := h
    refine ⟨a, vs, ds, rfl, rfl, s.keep a _ h1 h3, ?_, ?_, h4, s.dats h5⟩
    · cases q : G' a with
      | none => rfl
      | some o =>
        rcases s.fr a o q with z | z
        · rw [h2] at z; cases z
        · rw [h1] at z; cases z
    · obtain ⟨C, rfl, hC⟩ := s.pre
      intro z
      rcases List.mem_append.mp z with z | z
      · exact h3 z
      · rw [hC a z] at h1; cases h1
theorem RelR.step {H' G' : Hp} (R : RelR K fa H0 r σ H G B) (s : Stp H G B H' G' B') : RelR K fa H0 r σ H' G' B' :=
  ⟨R.len, fun i own d e => let ⟨v, e1, q⟩ := R.at_ i own d e; ⟨v, e1, q.step s⟩, R.dist⟩
end
end Pv

set_option Elab.async false
set_option linter.all false
set_option maxRecDepth 100000
/-! SndB: the cases of expressions. -/
namespace Pv
open PySem PySem.Spec PyProof.Rows L2

/-! ### a def that runs where no guard stands -/
abbrev SpG := List V → Hp → VK → Prop
structure FnG (prog : Program) (w : World) (K : PySem.W.Frag) (mg : Str → Option Value) (base : Heap) (k : Nat) (f : Addr) (fd : FuncData) (ps : List Str) (sp : SpG) : Prop where
  len : ∀ vs H Q, sp vs H Q → vs.length = ps.length
  run : ∀ (A : Around) (outer : List Env) (s : Shared) (H : Hp) (args : Args) (us : List Value) (vs : List V) (Q : VK), Room k A → A.guards = some [] → Env0 prog w K mg base A outer s H →
    BindsTo s fd args (ps.zip us) → Vals vs us → sp vs H Q → codeAny (model prog w) A (.call (.ref f) args) (CR CX0 outer prog w H s Q E0) s

/-- what is promised of the def number j where calls answer as cf says -/
def spOf (K : PySem.W.Frag) (fa : Nat → Addr) (np : Nat) (ev : List D → Sto → Option (D × Sto)) : SpG := fun vs H Q => vs.length = np ∧ ∃ G B S ds d S', RelH K fa S H G B ∧ Dats K fa G B vs ds ∧ ev ds S = some (d, S') ∧
  ∀ v H' G' B', Stp H G B H' G' B' → RelH K fa S' H' G' B' → Dat K fa G' B' v d → Q v H'

section
variable {X : Cx} {k : Nat} {f : Addr} {fd : FuncData} {ps : List Str} {sp : SpG}
/-- the callee runs, however its arguments are bound -/
theorem runG {pins : List (Addr × Obj)} {σ : Slots} {H : Hp} {s : Shared} {Q : VK} {us : List Value} {vs : List V} {args : Args} (F : FnG X.prog X.w X.K X.mg X.base k f fd ps sp) (hr : Room k X.A) (hg : X.A.guards = some [])
    (hb : BindsTo s fd args (ps.zip us)) (I : Inv X pins σ H s) (r : Vals vs us) (h : sp vs H Q) : codeAny (model X.prog X.w) X.A (.call (.ref f) args)
      (fun r s' => match r with | .ok (.ret u) => EP X pins σ Q u s' | .ok _ => False | .error e => X.xe e s') s := by
  refine codeAny_mono (F.run X.A X.stack s H args us vs Q hr hg I.env0 hb r h) fun res s' hq => ?_
  cases res with
  | error e => exact False.elim hq
  | ok fl =>
    cases fl with
    | ret u => exact I.after hq
    | next => exact False.elim hq
    | brk => exact False.elim hq
    | cont => exact False.elim hq
end

/-! ### readings of values D -/
section
variable (K : PySem.W.Frag) (fa : Nat → Addr) (H0 : Hp) (r : Rho) (S : Sto)
def TD (d : D) (S' : Sto) : TE := fun σ H Q => ∃ G B, RelR K fa H0 r σ H G B ∧ RelH K fa S H G B ∧
  ∀ v H' G' B', Stp H G B H' G' B' → RelH K fa S' H' G' B' → Dat K fa G' B' v d → Q v H'
def TB (d : D) (S' : Sto) : TE := fun σ H Q => ∃ G B, RelR K fa H0 r σ H G B ∧ RelH K fa S H G B ∧
  ∀ v H' G' B' own, Stp H G B H' G' B' → RelH K fa S' H' G' B' → SlotOk K fa H0 H' G' B' v own d → Q v H'
def TDs (ds : List D) (S' : Sto) : TA := fun σ H Q => ∃ G B, RelR K fa H0 r σ H G B ∧ RelH K fa S H G B ∧
  ∀ vs H' G' B', Stp H G B H' G' B' → RelH K fa S' H' G' B' → Dats K fa G' B' vs ds → Q vs H'
def TBo (b : Bool) (S' : Sto) : TT := fun σ H Q => ∃ G B, RelR K fa H0 r σ H G B ∧ RelH K fa S H G B ∧
  ∀ H' G' B', Stp H G B H' G' B' → RelH K fa S' H' G' B' → Q b H'
def TOp (o : Option Int) (S' : Sto) : TO := fun σ H Q => ∃ G B, RelR K fa H0 r σ H G B ∧ RelH K fa S H G B ∧
  ∀ H' G' B', Stp H G B H' G' B' → RelH K fa S' H' G' B' → Q o H'
end

/-- what a value reads as: what is at a place or owned is read as a list -/
def Rb (K : PySem.W.Frag) (fa : Nat → Addr) (H G : Hp) (B : List Addr) (v : V) (d : D) : Prop := Dat K fa G B v d ∨ ∃ a vs ds, v = .ref a ∧ d = .lst ds ∧ H a = some (.lst vs) ∧ Dats K fa G B vs ds
section
variable {K : PySem.W.Frag} {fa : Nat → Addr} {H0 H G : Hp} {B : List Addr} {S : Sto} {v : V} {d : D} {own : Bool}
theorem Rb.of (h : SlotOk K fa H0 H G B v own d) (R : RelH K fa S H G B) : Rb K fa H G B v (deB S d) := by
  cases own with
  | true =>
    obtain ⟨a, vs, ds, rfl, rfl, h1, _, _, _, h5⟩ := h
    exact .inr ⟨a, vs, ds, rfl, rfl, h1, h5⟩
  | false =>
    have h' : Dat K fa G B v d := h
    cases d with
    | ref n =>
      obtain ⟨a, rfl, hb⟩ := h'
      unfold deB
      cases e : S[n]? with
      | none =>
        have h1 := (List.getElem?_eq_some_iff.mp hb).1
        have h2 := List.getElem?_eq_none_iff.mp e
        rw [R.len] at h1
        exact absurd h1 (Nat.not_lt.mpr h2)
      | some ds =>
        obtain ⟨a', vs, e1, e2, _, e4, _⟩ := R.at_ n ds e
        rw [hb] at e1; cases e1
        exact .inr ⟨_, vs, ds, rfl, by simp only [e], e2, e4⟩
    | _ => exact .inl h'
theorem Rb.lst {ds : List D} (h : Rb K fa H G B v (.lst ds)) (k : ∀ a o, G a = some o → H a = some o) : ∃ a vs, v = .ref a ∧ H a = some (.lst vs) ∧ Dats K fa G B vs ds := by
  rcases h with ⟨a, vs, e, h1, h2⟩ | ⟨a, vs, ds', e, e2, h1, h2⟩
  · exact ⟨a, vs, e, k _ _ h1, h2⟩
  · cases e2
    exact ⟨a, vs, e, h1, h2⟩
theorem Rb.seq {ds : List D} {d : D} (h : Rb K fa H G B v d) (k : ∀ a o, G a = some o → H a = some o) (e : wk d = .lst ds) : ∃ a vs, v = .ref a ∧ SqL K H a vs ∧ Dats K fa G B vs ds := by
  cases d with
  | fz xs =>
    cases e
    rcases h with ⟨a, vs, e, h1, h2⟩ | ⟨a, vs, ds', e, e2, h1, h2⟩
    · exact ⟨a, vs, e, SqL.up k h1, h2⟩
    · cases e2
  | lst xs =>
    cases e
    obtain ⟨a, vs, e1, h1, h2⟩ := h.lst k
    exact ⟨a, vs, e1, .of h1, h2⟩
  | _ => cases e
theorem wk_eq {d e : D} (h : wk d = e) (n : ∀ xs, e ≠ .lst xs) : d = e := by
  cases d with
  | fz xs => exact absurd h.symm (n xs)
  | _ => exact h
theorem Rb.tup {ds : List D} (h : Rb K fa H G B v (.tup ds)) (k : ∀ a o, G a = some o → H a = some o) : ∃ a vs, v = .ref a ∧ SqT K H a vs ∧ Dats K fa G B vs ds ∧ SqT K G a vs := by
  rcases h with ⟨a, vs, e, h1, h2⟩ | ⟨a, vs, ds', e, e2, h1, h2⟩
  · exact ⟨a, vs, e, SqT.up k h1, h2, h1⟩
  · cases e2
theorem Rb.int {i : Int} (h : Rb K fa H G B v (.int i)) : v = .int i := by
  rcases h with h | ⟨_, _, _, _, e2, _⟩
  · exact h
  · cases e2
theorem Rb.bl {i : Bool} (h : Rb K fa H G B v (.bl i)) : v = .bl i := by
  rcases h with h | ⟨_, _, _, _, e2, _⟩
  · exact h
  · cases e2
theorem Rb.str {i : Str} (h : Rb K fa H G B v (.str i)) : v = .str i := by
  rcases h with h | ⟨_, _, _, _, e2, _⟩
  · exact h
  · cases e2
theorem Rb.non (h : Rb K fa H G B v .non) : v = .non := by
  rcases h with h | ⟨_, _, _, _, e2, _⟩
  · exact h
  · cases e2
theorem Rb.dp {p : PyData} (h : Rb K fa H G B v d) (k : ∀ a o, G a = some o → H a = some o) (e : d.py = some p) : Dp K H v p := by
  rcases h with h | ⟨a, vs, ds, rfl, rfl, h1, h2⟩
  · exact Dat.dp k d v p e h
  · obtain ⟨ps, hp, rfl⟩ := Option.map_eq_some_iff.mp (show (pys ds).map PyData.list = some p from e)
    exact .lst (.of h1) (Dats.dp k ds vs ps hp h2)
end

def biNames : List Str := ["abs", "len", "all", "any", "tuple", "list", "sum", "max", "min", "int", "bool", "str", "repr", "isinstance", "range", "zip", "enumerate", "reversed", "sorted", "dict", "set"]

/-- where one stands, and what the text says -/
structure Wd (P : Prg) (cf : Nat → List D → Sto → Option (D × Sto)) (fa : Nat → Addr) (X : Cx) (N : List Str) (sc : Scope) : Prop where
  hN : X.N = N
  hsc : X.env.scope = sc
  nd : N.Nodup
  calm : X.calm = true
  gd : X.A.guards = some []
  un : X.A.units + 128 < cLine
  bi : ∀ x ∈ biNames, X.mg x = none
  cst : ∀ (j : Nat) (p : Str × D), P.csts[j]? = some p → ∃ u v, X.mg p.1 = some u ∧ RelV v u ∧ ∀ G B, Dat X.K fa G B v p.2
  fnv : ∀ (j : Nat) (g : Fn), P.fns[j]? = some g → X.mg g.name = some (.ref (fa j)) ∧ PySem.W.keepIn X.K (.ref (fa j)) = true
  run : ∃ k, Room k X.A ∧ ∀ (j : Nat) (g : Fn), P.fns[j]? = some g → ∃ fd, (Binds X.K fd (g.N.take g.np) [] ∧ ∀ (q : Nat) (w : Kwf), P.kws[q]? = some w → w.f = j → ∀ (s : Shared) (us ws zs : List Value), us.length = w.n → ws.length = w.ks.length → pick w.perm (us ++ ws) = some zs → BindsTo s fd ⟨us, w.ks.zip ws⟩ ((g.N.take g.np).zip zs)) ∧ FnG X.prog X.w X.K X.mg X.base k (fa j) fd (g.N.take g.np) (spOf X.K fa g.np (cf j))

section
variable {P : Prg} {cf : Nat → List D → Sto → Option (D × Sto)} {fa : Nat → Addr} {H0 : Hp} {X : Cx} {N : List Str} {sc : Scope}

theorem _root_.L2.PE.wk {e : Expr} {t t' : TE} (h : PE X e t) (k : ∀ σ H Q, t' σ H Q → t σ H Q) : PE X e t' := ⟨fun pins s σ H Q I q => h.run pins s σ H Q I (k σ H Q q)⟩
theorem _root_.L2.PT.wk {e : Expr} {t t' : TT} (h : PT X e t) (k : ∀ σ H Q, t' σ H Q → t σ H Q) : PT X e t' := ⟨fun pins s σ H Q I q => h.run pins s σ H Q I (k σ H Q q)⟩
theorem _root_.L2.PW.wk {e : Expr} {t t' : TT} (h : PW X e t) (k : ∀ σ H Q, t' σ H Q → t σ H Q) : PW X e t' := ⟨fun wh pins s σ H Q I q => h.run wh pins s σ H Q I (k σ H Q q)⟩
theorem _root_.L2.PA.wk {es : List Expr} {t t' : TA} (h : PA X es t) (k : ∀ σ H Q, t' σ H Q → t σ H Q) : PA X es t' := ⟨fun pos pins s σ H Q I q => h.run pos pins s σ H Q I (k σ H Q q)⟩

variable (P cf fa H0 X)
def SE (x : Expr) (e : E) : Prop := ∀ r S d S', evE P cf e r S = some (d, S') → PE X x (TD X.K fa H0 r S d S')
def ST (x : Expr) (e : E) : Prop := ∀ r S b S', evE P cf e r S = some (.bl b, S') → PT X x (TBo X.K fa H0 r S b S')
def SB (x : Expr) (e : E) : Prop := ∀ r S d S', evE P cf e r S = some (d, S') → PE X x (TB X.K fa H0 r S d S')
def SA (xs : List Expr) (es : List E) : Prop := ∀ r S ds S', evEs P cf es r S = some (ds, S') → PA X xs (TDs X.K fa H0 r S ds S')
variable {P cf fa H0 X}

theorem SE.b {x : Expr} {e : E} (h : SE P cf fa H0 X x e) : SB P cf fa H0 X x e := fun r S d S' hv => (h r S d S' hv).wk fun σ H Q ⟨G, B, R, RS, q⟩ => ⟨G, B, R, RS, fun v H' G' B' st rs dt => q v H' G' B' false st rs dt⟩

/-! names -/
theorem s_bor {i : Nat} {x : Str} {pos : Pos} (hi : X.N[i]? = some x) (hv : Vis X.env.scope x) (hd : (x == ("__debug__" : Str)) = false) (hcd : (x == ("__classdict__" : Str)) = false) : SB P cf fa H0 X (.Name x pos) (.bor i) := by
  intro r S d S' h
  refine (pe_var hi hv hd hcd).wk fun σ H Q ⟨G, B, R, RS, q⟩ => ?_
  have h' := h
  simp only [evE] at h'
  split at h'
  · rename_i own d0 e
    cases h'
    obtain ⟨v, e1, ok⟩ := R.at_ i own d e
    exact ⟨v, e1, q v H G B own .refl RS ok⟩
  · cases h'
theorem s_var {i : Nat} {x : Str} {pos : Pos} (hi : X.N[i]? = some x) (hv : Vis X.env.scope x) (hd : (x == ("__debug__" : Str)) = false) (hcd : (x == ("__classdict__" : Str)) = false) : SE P cf fa H0 X (.Name x pos) (.var i) := by
  intro r S d S' h
  refine (pe_var hi hv hd hcd).wk fun σ H Q ⟨G, B, R, RS, q⟩ => ?_
  have h' := h
  simp only [evE] at h'
  split at h'
  · rename_i d0 e
    cases h'
    obtain ⟨v, e1, ok⟩ := R.at_ i false d e
    exact ⟨v, e1, q v H G B .refl RS ok⟩
  · cases h'
theorem TD.c {v : V} {d : D} {r : Rho} {S : Sto} (h : ∀ G B, Dat X.K fa G B v d) : ∀ σ H Q, TD X.K fa H0 r S d S σ H Q → tC v σ H Q := fun σ H Q ⟨G, B, R, RS, q⟩ => q v H G B .refl RS (h G B)
theorem s_int {i : Int} {j : Nat} {pos : Pos} : SE P cf fa H0 X (.Constant (.int i) j pos) (.cst (.int i)) := fun r S d S' h => by
  have e : (D.int i, S) = (d, S') := Option.some.inj (by simpa only [evE] using h)
  cases e
  exact pe_int.wk (TD.c fun _ _ => rfl)
theorem s_bl {i : Bool} {j : Nat} {pos : Pos} : SE P cf fa H0 X (.Constant (.bool i) j pos) (.cst (.bl i)) := fun r S d S' h => by
  have e : (D.bl i, S) = (d, S') := Option.some.inj (by simpa only [evE] using h)
  cases e
  exact pe_bl.wk (TD.c fun _ _ => rfl)
theorem s_non {j : Nat} {pos : Pos} : SE P cf fa H0 X (.Constant .none j pos) (.cst .non) := fun r S d S' h => by
  have e : (D.non, S) = (d, S') := Option.some.inj (by simpa only [evE] using h)
  cases e
  exact pe_non.wk (TD.c fun _ _ => rfl)
theorem s_str {i : Str} {j : Nat} {pos : Pos} : SE P cf fa H0 X (.Constant (.str i) j pos) (.cst (.str i)) := fun r S d S' h => by
  have e : (D.str i, S) = (d, S') := Option.some.inj (by simpa only [evE] using h)
  cases e
  exact pe_str.wk (TD.c fun _ _ => rfl)
theorem s_glb (W : Wd P cf fa X N sc) {j : Nat} {p : Str × D} {pos : Pos} (hj : P.csts[j]? = some p) (hg : Gl X p.1) (hd : (p.1 == ("__debug__" : Str)) = false) : SE P cf fa H0 X (.Name p.1 pos) (.glb j) := fun r S d S' h => by
  simp only [evE, hj, Option.map_some, Option.some.injEq] at h
  cases h
  obtain ⟨u, v, h1, h2, h3⟩ := W.cst j p hj
  exact (pe_glob hg h1 h2 hd).wk (TD.c h3)
theorem s_fnv (W : Wd P cf fa X N sc) {j : Nat} {g : Fn} {pos : Pos} (hj : P.fns[j]? = some g) (hg : Gl X g.name) (hd : (g.name == ("__debug__" : Str)) = false) : SE P cf fa H0 X (.Name g.name pos) (.fnv j) := fun r S d S' h => by
  have e : (D.fn j, S) = (d, S') := Option.some.inj (by simpa only [evE] using h)
  cases e
  exact (pe_glob (v := .ref (fa j)) hg (W.fnv j g hj).1 rfl hd).wk (TD.c fun _ _ => rfl)

/-! two parts, one behind the other -/
theorem TB.two {r : Rho} {S S1 S2 : Sto} {d1 d2 : D} {σ : Slots} {H : Hp} {rd : R2} {Q : VK} {G : Hp} {B : List Addr} (R : RelR X.K fa H0 r σ H G B) (RS : RelH X.K fa S H G B)
    (q : ∀ v1 v2 H' G' B', Stp H G B H' G' B' → RelH X.K fa S2 H' G' B' → Rb X.K fa H' G' B' v1 (deB S2 d1) → Rb X.K fa H' G' B' v2 (deB S2 d2) → rd v1 v2 H' Q) :
    tOp rd (TB X.K fa H0 r S d1 S1) (TB X.K fa H0 r S1 d2 S2) σ H Q :=
  ⟨G, B, R, RS, fun v1 H1 G1 B1 o1 st1 rs1 ok1 => ⟨G1, B1, R.step st1, rs1, fun v2 H2 G2 B2 o2 st2 rs2 ok2 => q v1 v2 H2 G2 B2 (st1.trans st2) rs2 (.of (ok1.step st2) rs2) (.of ok2 rs2)⟩⟩
end
end Pv

set_option Elab.async false
set_option linter.all false
set_option maxRecDepth 100000
/-! SndC: operators. -/
namespace Pv
open PySem PySem.Spec PyProof.Rows L2

def GoodR (K : PySem.W.Frag) (fa : Nat → Addr) (rd : R2) (x y d : D) : Prop := ∀ v1 v2 H G B S Q, RelH K fa S H G B → Rb K fa H G B v1 x → Rb K fa H G B v2 y →
  (∀ v H' G' B', Stp H G B H' G' B' → RelH K fa S H' G' B' → Dat K fa G' B' v d → Q v H') → rd v1 v2 H Q

section
variable {X : Cx} {fa : Nat → Addr}
theorem op_fdX : OpR X (binaryOp .FloorDiv) (rI (fun _ j => j ≠ 0 ∧ j.natAbs.log2 < 9000) fun i j => .int (i.fdiv j)) :=
  opI fun _ _ _ _ _ _ _ hc q => floordiv_int hc.1 q (.inl (PyProof.noPylong_of_log2 hc.2))

theorem bits_log (i : Int) : Builtin.Int.intBits i ≤ i.natAbs.log2 + 1 := by
  unfold Builtin.Int.intBits
  split <;> omega

theorem op_powX : OpR X (binaryOp .Pow) (rI (fun i j => 0 ≤ j ∧ (Builtin.Int.intBits i : Int) * j ≤ 2 ^ 27) fun i j => .int (i ^ j.toNat)) :=
  opI fun _ _ _ _ _ _ _ hc q => pow_int hc.1 hc.2 q
theorem binD_ok {op : Operator} {x y d : D} (h : binD op x y = some d) : ∃ rd, OpR X (binaryOp op) rd ∧ GoodR X.K fa rd x y d := by
  unfold binD at h
  split at h
  · cases h
    exact ⟨_, op_add, fun v1 v2 H G B S Q RS r1 r2 q => ⟨_, _, r1.int, r2.int, q _ H G B .refl RS rfl⟩⟩
  · cases h
    exact ⟨_, op_sub, fun v1 v2 H G B S Q RS r1 r2 q => ⟨_, _, r1.int, r2.int, q _ H G B .refl RS rfl⟩⟩
  · rename_i i j
    by_cases c : szMul i j = true
    · rw [if_pos c] at h; cases h
      exact ⟨_, op_mulW, fun v1 v2 H G B S Q RS r1 r2 q => ⟨_, _, r1.int, r2.int, (show i.natAbs.log2 + j.natAbs.log2 < 1000000 from of_decide_eq_true c), q _ H G B .refl RS rfl⟩⟩
    · rw [if_neg c] at h; cases h
  · rename_i i j
    by_cases c : szDiv j = true
    · rw [if_pos c] at h; cases h
      have c' := Bool.and_eq_true_iff.mp c
      exact ⟨_, op_fdX, fun v1 v2 H G B S Q RS r1 r2 q => ⟨_, _, r1.int, r2.int, ⟨of_decide_eq_true c'.1, of_decide_eq_true c'.2⟩, q _ H G B .refl RS rfl⟩⟩
    · rw [if_neg c] at h; cases h
  · rename_i i j
    by_cases c : j = 0
    · rw [if_pos c] at h; cases h
    · rw [if_neg c] at h; cases h
      exact ⟨_, op_modN, fun v1 v2 H G B S Q RS r1 r2 q => ⟨_, _, r1.int, r2.int, c, q _ H G B .refl RS rfl⟩⟩
  · rename_i i j
    by_cases c : szPow i j = true
    · rw [if_pos c] at h; cases h
      have c' := Bool.and_eq_true_iff.mp c
      have c2 := Bool.and_eq_true_iff.mp c'.1
      have h1 : i.natAbs.log2 < 100000 := of_decide_eq_true c'.2
      have h2 : j ≤ 1000 := of_decide_eq_true c2.2
      have h0 : 0 ≤ j := of_decide_eq_true c2.1
      have h3 := bits_log i
      have e : (2 : Int) ^ 27 = 134217728 := by decide
      have h4 : (Builtin.Int.intBits i : Int) * j ≤ 2 ^ 27 := by
        have a1 : (Builtin.Int.intBits i : Int) ≤ 100000 := by omega
        have a2 : (Builtin.Int.intBits i : Int) * j ≤ 100000 * 1000 := Int.mul_le_mul a1 h2 h0 (by decide)
        rw [e]
        omega
      exact ⟨_, op_powX, fun v1 v2 H G B S Q RS r1 r2 q => ⟨_, _, r1.int, r2.int, ⟨h0, h4⟩, q _ H G B .refl RS rfl⟩⟩
    · rw [if_neg c] at h; cases h
  · rename_i i j
    by_cases c : szShl i j = true
    · rw [if_pos c] at h; cases h
      have c' := Bool.and_eq_true_iff.mp c
      have c2 := Bool.and_eq_true_iff.mp c'.1
      have h1 : i.natAbs.log2 < 1000000 := of_decide_eq_true c'.2
      have h2 : j ≤ 1000000 := of_decide_eq_true c2.2
      have h3 := bits_log i
      have e : (2 : Int) ^ 27 = 134217728 := by decide
      exact ⟨_, op_shlW, fun v1 v2 H G B S Q RS r1 r2 q => ⟨_, _, r1.int, r2.int, ⟨of_decide_eq_true c2.1, by rw [e]; omega⟩, q _ H G B .refl RS rfl⟩⟩
    · rw [if_neg c] at h; cases h
  · rename_i xs ys
    by_cases c : xs.length + ys.length ≤ 100000
    · rw [if_pos c] at h; cases h
      refine ⟨_, op_catA, fun v1 v2 H G B S Q RS r1 r2 q => ?_⟩
      obtain ⟨a, vs, rfl, h1, d1, g1⟩ := r1.tup RS.sub
      obtain ⟨b, ws, rfl, h2, d2, g2⟩ := r2.tup RS.sub
      have l1 := Dats.length _ _ d1
      have l2 := Dats.length _ _ d2
      refine ⟨a, b, vs, ws, rfl, rfl, h1, h2, by rw [l1, l2, sizeLine_eq]; omega, fun e => ?_, fun n e => ?_, fun n n' p hp => ?_⟩
      · subst e
        have : xs = [] := by cases xs with | nil => rfl | cons _ _ => simp at l1
        subst this
        exact q _ H G B .refl RS ⟨b, ws, rfl, g2, d2⟩
      · subst e
        have : ys = [] := by cases ys with | nil => rfl | cons _ _ => simp at l2
        subst this
        rw [List.append_nil] at q
        exact q _ H G B .refl RS ⟨a, vs, rfl, g1, d1⟩
      · obtain ⟨st, rs⟩ := RS.lay (o := .tup (vs ++ ws)) hp
        exact q _ _ _ _ st rs ⟨p, _, rfl, .inl (.inl upd_same), st.dats (d1.app d2)⟩
    · rw [if_neg c] at h; cases h
  · rename_i xs ys
    by_cases c : xs.length + ys.length ≤ 100000
    · rw [if_pos c] at h; cases h
      refine ⟨_, op_cat, fun v1 v2 H G B S Q RS r1 r2 q => ?_⟩
      obtain ⟨a, vs, rfl, h1, d1⟩ := r1.lst RS.sub
      obtain ⟨b, ws, rfl, h2, d2⟩ := r2.lst RS.sub
      have l1 := Dats.length _ _ d1
      have l2 := Dats.length _ _ d2
      refine ⟨a, b, vs, ws, rfl, rfl, h1, h2, by rw [l1, l2, sizeLine_eq]; omega, fun p hp => ?_⟩
      obtain ⟨st, rs⟩ := RS.lay (o := .lst (vs ++ ws)) hp
      exact q _ _ _ _ st rs ⟨p, _, rfl, upd_same, st.dats (d1.app d2)⟩
    · rw [if_neg c] at h; cases h
  · rename_i xs ys
    by_cases c : xs.length + ys.length ≤ 100000
    · rw [if_pos c] at h; cases h
      exact ⟨_, op_add_str, fun v1 v2 H G B S Q RS r1 r2 q => ⟨_, _, r1.str, r2.str, by rw [sizeLine_eq]; omega, q _ H G B .refl RS rfl⟩⟩
    · rw [if_neg c] at h; cases h
  · cases h

theorem okPy_of {x : D} (h : okPy x = true) : ∃ p, x.py = some p ∧ SeqAt.shaped p = true := by
  unfold okPy at h
  split at h
  · exact ⟨_, by assumption, h⟩
  · cases h

/-! what is in a tuple or a list, of any depth -/
theorem op_inDT {X : Cx} (hu : X.A.units + 65 < cLine) : OpR X (compareOp .In) (fun x y H Q => ∃ d ds, Dp X.K H x d ∧ Dp X.K H y (.tuple ds) ∧ SeqAt.shaped d = true ∧ SeqAt.shaped (.tuple ds) = true ∧ Q (.bl (ds.any fun z => PyData.eqv z d)) H) := by
  intro pins s σ H x y v u Q I rx ry h
  obtain ⟨d, ds, hd, he, sd, se, q⟩ := h
  obtain ⟨as, r1⟩ := Dp.reads I d x v hd rx
  obtain ⟨bs, r2⟩ := Dp.reads I (.tuple ds) y u he ry
  exact SeqAt.in_tuple_reads r2 r1 (SeqAt.canLay_of_shaped se) (SeqAt.canLay_of_shaped sd) (room_in_shaped sd hu) ⟨.bl _, H, I, rfl, q⟩
theorem op_notInDT {X : Cx} (hu : X.A.units + 65 < cLine) : OpR X (compareOp .NotIn) (fun x y H Q => ∃ d ds, Dp X.K H x d ∧ Dp X.K H y (.tuple ds) ∧ SeqAt.shaped d = true ∧ SeqAt.shaped (.tuple ds) = true ∧ Q (.bl (!ds.any fun z => PyData.eqv z d)) H) := by
  intro pins s σ H x y v u Q I rx ry h
  obtain ⟨d, ds, hd, he, sd, se, q⟩ := h
  obtain ⟨as, r1⟩ := Dp.reads I d x v hd rx
  obtain ⟨bs, r2⟩ := Dp.reads I (.tuple ds) y u he ry
  exact SeqAt.notIn_tuple_reads r2 r1 (SeqAt.canLay_of_shaped se) (SeqAt.canLay_of_shaped sd) (room_in_shaped sd hu) ⟨.bl _, H, I, rfl, q⟩
theorem inD_py {x : D} {d : PyData} (hx : x.py = some d) : ∀ (ys : List D) (ds : List PyData), pys ys = some ds → inD x ys = ds.any fun z => PyData.eqv z d
  | [], ds, h => by cases h; rfl
  | y :: ys, ds, h => by
    obtain ⟨z, hz, e2⟩ := Option.bind_eq_some_iff.mp (show (y.py.bind fun u => (pys ys).map fun us => u :: us) = some ds from h)
    obtain ⟨zs, hzs, rfl⟩ := Option.map_eq_some_iff.mp e2
    show (eqD y x || inD x ys) = (PyData.eqv z d || _)
    rw [eqD_py y x z d hz hx, inD_py hx ys zs hzs]
/-! flat values -/
theorem flat_eq {x y : D} {v u : V} {K : PySem.W.Frag} {G : Hp} {B : List Addr} (fx : x.flat = true) (fy : y.flat = true) (r1 : Dat K fa G B v x) (r2 : Dat K fa G B u y) : flatV v = true ∧ eqV v u = eqD x y := by
  cases x <;> first | cases fx | skip
  all_goals cases y <;> first | cases fy | skip
  all_goals (cases r1; cases r2; exact ⟨rfl, by first | rfl | exact (Bool.beq_eq_decide_eq _ _)⟩)
theorem flat_V {x : D} {v : V} {K : PySem.W.Frag} {G : Hp} {B : List Addr} (fx : x.flat = true) (r1 : Dat K fa G B v x) : flatV v = true := by
  cases x <;> first | (cases r1; rfl) | cases fx
theorem flat_in {x : D} {v : V} {K : PySem.W.Frag} {G : Hp} {B : List Addr} (fx : x.flat = true) (r1 : Dat K fa G B v x) : ∀ (ys : List D) (us : List V), ys.all D.flat = true → Dats K fa G B us ys → us.all flatV = true ∧ inV v us = inD x ys
  | [], _, _, h => by cases h; exact ⟨rfl, rfl⟩
  | y :: ys, _, f, h => by
    obtain ⟨u, r, rfl, h1, h2⟩ := h
    rw [List.all_cons, Bool.and_eq_true] at f
    obtain ⟨i1, i2⟩ := flat_in fx r1 ys r f.2 h2
    obtain ⟨f1, e1⟩ := flat_eq f.1 fx h1 r1
    refine ⟨by rw [List.all_cons, f1, i1]; rfl, ?_⟩
    unfold inV inD at i2 ⊢
    rw [List.any_cons, List.any_cons, e1, i2]
theorem Rb.flat {K : PySem.W.Frag} {H G : Hp} {B : List Addr} {v : V} {x : D} (h : Rb K fa H G B v x) (f : x.flat = true) : Dat K fa G B v x := by
  rcases h with h | ⟨_, _, _, _, e, _⟩
  · exact h
  · subst e; cases f

theorem isNon_ok {K : PySem.W.Frag} {H G : Hp} {B : List Addr} {v : V} {x : D} (h : Rb K fa H G B v x) : decide (v = .non) = isNon x := by
  rcases h with h | ⟨a, vs, ds, rfl, rfl, _⟩
  · cases x <;> first
      | (cases h; rfl)
      | (obtain ⟨a, vs, rfl, _⟩ := h; rfl)
      | (obtain ⟨a, rfl, _⟩ := h; rfl)
  · rfl

theorem scal_int (i j : Int) : scal (.int i) (.int j) = true := rfl
theorem scal_str (i j : Str) : scal (.str i) (.str j) = true := rfl

theorem cmpD_ok (hu : X.A.units + 128 < cLine) {op : CmpOp} {x y : D} {b : Bool} (h : cmpD op x y = some b) : ∃ rd, OpR X (compareOp op) rd ∧ GoodR X.K fa rd x y (.bl b) := by
  have hu' : X.A.units + 64 < cLine := by omega
  unfold cmpD at h
  split at h
  · cases h
    exact ⟨_, op_lt, fun v1 v2 H G B S Q RS r1 r2 q => ⟨_, _, r1.int, r2.int, q _ H G B .refl RS rfl⟩⟩
  · cases h
    exact ⟨_, op_le, fun v1 v2 H G B S Q RS r1 r2 q => ⟨_, _, r1.int, r2.int, q _ H G B .refl RS rfl⟩⟩
  · cases h
    exact ⟨_, op_gt, fun v1 v2 H G B S Q RS r1 r2 q => ⟨_, _, r1.int, r2.int, q _ H G B .refl RS rfl⟩⟩
  · cases h
    exact ⟨_, op_ge, fun v1 v2 H G B S Q RS r1 r2 q => ⟨_, _, r1.int, r2.int, q _ H G B .refl RS rfl⟩⟩
  · cases h
    refine ⟨_, op_eq, fun v1 v2 H G B S Q RS r1 r2 q => ?_⟩
    rw [r1.int, r2.int]
    exact ⟨rfl, q _ H G B .refl RS (by show V.bl _ = V.bl _; rw [dec_int, Bool.beq_eq_decide_eq])⟩
  · cases h
    refine ⟨_, op_ne, fun v1 v2 H G B S Q RS r1 r2 q => ?_⟩
    rw [r1.int, r2.int]
    exact ⟨rfl, q _ H G B .refl RS (by show V.bl _ = V.bl _; rw [dec_int, Bool.beq_eq_decide_eq])⟩
  · cases h
    refine ⟨_, op_eq, fun v1 v2 H G B S Q RS r1 r2 q => ?_⟩
    rw [r1.str, r2.str]
    exact ⟨rfl, q _ H G B .refl RS (by show V.bl _ = V.bl _; rw [dec_str, Bool.beq_eq_decide_eq])⟩
  · cases h
    refine ⟨_, op_ne, fun v1 v2 H G B S Q RS r1 r2 q => ?_⟩
    rw [r1.str, r2.str]
    exact ⟨rfl, q _ H G B .refl RS (by show V.bl _ = V.bl _; rw [dec_str, Bool.beq_eq_decide_eq])⟩
  · split at h
    · rename_i c
      cases h
      obtain ⟨c1, c2⟩ := Bool.and_eq_true_iff.mp c
      obtain ⟨p1, e1, s1⟩ := okPy_of c1
      obtain ⟨p2, e2, s2⟩ := okPy_of c2
      refine ⟨_, op_eqD hu', fun v1 v2 H G B S Q RS r1 r2 q => ⟨p1, p2, r1.dp RS.sub e1, r2.dp RS.sub e2, s1, s2, ?_⟩⟩
      rw [← eqD_py _ _ p1 p2 e1 e2]
      exact q _ H G B .refl RS rfl
    · cases h
  · split at h
    · rename_i c
      cases h
      obtain ⟨c1, c2⟩ := Bool.and_eq_true_iff.mp c
      obtain ⟨p1, e1, s1⟩ := okPy_of c1
      obtain ⟨p2, e2, s2⟩ := okPy_of c2
      refine ⟨_, op_neD hu', fun v1 v2 H G B S Q RS r1 r2 q => ⟨p1, p2, r1.dp RS.sub e1, r2.dp RS.sub e2, s1, s2, ?_⟩⟩
      rw [← eqD_py _ _ p1 p2 e1 e2]
      exact q _ H G B .refl RS rfl
    · cases h
  · cases h
    exact ⟨_, op_isN, fun v1 v2 H G B S Q RS r1 r2 q => ⟨r2.non, q _ H G B .refl RS (by show V.bl _ = V.bl _; rw [isNon_ok r1])⟩⟩
  · cases h
    exact ⟨_, op_notN, fun v1 v2 H G B S Q RS r1 r2 q => ⟨r2.non, q _ H G B .refl RS (by show V.bl _ = V.bl _; rw [isNon_ok r1])⟩⟩
  · split at h
    · rename_i c
      cases h
      obtain ⟨c1, c2⟩ := Bool.and_eq_true_iff.mp c
      refine ⟨_, op_in_seq, fun v1 v2 H G B S Q RS r1 r2 q => ?_⟩
      obtain ⟨a, vs, rfl, h1, d1, _⟩ := r2.tup RS.sub
      obtain ⟨i1, i2⟩ := flat_in c1 (r1.flat c1) _ _ c2 d1
      refine ⟨a, vs, rfl, .inr h1, flat_V c1 (r1.flat c1), i1, ?_⟩
      rw [if_neg Bool.false_ne_true, i2]
      exact q _ H G B .refl RS rfl
    · split at h
      · rename_i c
        cases h
        obtain ⟨c1, c2⟩ := Bool.and_eq_true_iff.mp c
        obtain ⟨p1, e1, s1⟩ := okPy_of c1
        obtain ⟨p2, e2, s2⟩ := okPy_of c2
        obtain ⟨qs, hq, rfl⟩ := Option.map_eq_some_iff.mp (show (pys _).map PyData.tuple = some p2 from e2)
        refine ⟨_, op_inDT (by omega), fun v1 v2 H G B S Q RS r1 r2 q => ⟨p1, qs, r1.dp RS.sub e1, r2.dp RS.sub e2, s1, s2, ?_⟩⟩
        rw [← inD_py e1 _ qs hq]
        exact q _ H G B .refl RS rfl
      · cases h
  · split at h
    · rename_i c
      cases h
      obtain ⟨c1, c2⟩ := Bool.and_eq_true_iff.mp c
      refine ⟨_, op_in_seq, fun v1 v2 H G B S Q RS r1 r2 q => ?_⟩
      obtain ⟨a, vs, rfl, h1, d1⟩ := r2.lst RS.sub
      obtain ⟨i1, i2⟩ := flat_in c1 (r1.flat c1) _ _ c2 d1
      refine ⟨a, vs, rfl, .inl (.of h1), flat_V c1 (r1.flat c1), i1, ?_⟩
      rw [if_neg Bool.false_ne_true, i2]
      exact q _ H G B .refl RS rfl
    · split at h
      · rename_i c
        cases h
        obtain ⟨c1, c2⟩ := Bool.and_eq_true_iff.mp c
        obtain ⟨p1, e1, s1⟩ := okPy_of c1
        obtain ⟨p2, e2, s2⟩ := okPy_of c2
        obtain ⟨qs, hq, rfl⟩ := Option.map_eq_some_iff.mp (show (pys _).map PyData.list = some p2 from e2)
        refine ⟨_, op_inD (by omega), fun v1 v2 H G B S Q RS r1 r2 q => ⟨p1, qs, r1.dp RS.sub e1, r2.dp RS.sub e2, s1, s2, ?_⟩⟩
        rw [← inD_py e1 _ qs hq]
        exact q _ H G B .refl RS rfl
      · cases h
  · split at h
    · rename_i c
      cases h
      obtain ⟨c1, c2⟩ := Bool.and_eq_true_iff.mp c
      refine ⟨_, op_notIn_seq, fun v1 v2 H G B S Q RS r1 r2 q => ?_⟩
      obtain ⟨a, vs, rfl, h1, d1, _⟩ := r2.tup RS.sub
      obtain ⟨i1, i2⟩ := flat_in c1 (r1.flat c1) _ _ c2 d1
      refine ⟨a, vs, rfl, .inr h1, flat_V c1 (r1.flat c1), i1, ?_⟩
      rw [if_pos rfl, i2]
      exact q _ H G B .refl RS rfl
    · split at h
      · rename_i c
        cases h
        obtain ⟨c1, c2⟩ := Bool.and_eq_true_iff.mp c
        obtain ⟨p1, e1, s1⟩ := okPy_of c1
        obtain ⟨p2, e2, s2⟩ := okPy_of c2
        obtain ⟨qs, hq, rfl⟩ := Option.map_eq_some_iff.mp (show (pys _).map PyData.tuple = some p2 from e2)
        refine ⟨_, op_notInDT (by omega), fun v1 v2 H G B S Q RS r1 r2 q => ⟨p1, qs, r1.dp RS.sub e1, r2.dp RS.sub e2, s1, s2, ?_⟩⟩
        rw [← inD_py e1 _ qs hq]
        exact q _ H G B .refl RS rfl
      · cases h
  · split at h
    · rename_i c
      cases h
      obtain ⟨c1, c2⟩ := Bool.and_eq_true_iff.mp c
      refine ⟨_, op_notIn_seq, fun v1 v2 H G B S Q RS r1 r2 q => ?_⟩
      obtain ⟨a, vs, rfl, h1, d1⟩ := r2.lst RS.sub
      obtain ⟨i1, i2⟩ := flat_in c1 (r1.flat c1) _ _ c2 d1
      refine ⟨a, vs, rfl, .inl (.of h1), flat_V c1 (r1.flat c1), i1, ?_⟩
      rw [if_pos rfl, i2]
      exact q _ H G B .refl RS rfl
    · split at h
      · rename_i c
        cases h
        obtain ⟨c1, c2⟩ := Bool.and_eq_true_iff.mp c
        obtain ⟨p1, e1, s1⟩ := okPy_of c1
        obtain ⟨p2, e2, s2⟩ := okPy_of c2
        obtain ⟨qs, hq, rfl⟩ := Option.map_eq_some_iff.mp (show (pys _).map PyData.list = some p2 from e2)
        refine ⟨_, op_notInD (by omega), fun v1 v2 H G B S Q RS r1 r2 q => ⟨p1, qs, r1.dp RS.sub e1, r2.dp RS.sub e2, s1, s2, ?_⟩⟩
        rw [← inD_py e1 _ qs hq]
        exact q _ H G B .refl RS rfl
      · cases h
  · rename_i x z
    obtain ⟨c, hc, rfl⟩ := Option.map_eq_some_iff.mp h
    have ex : x = ⟨#[c]⟩ := by
      unfold oneOf at hc
      split at hc
      · rename_i c' e
        cases hc
        cases x with
        | mk cps =>
          have : cps = #[c] := by
            apply Array.ext'
            simpa using e
          rw [this]
      · cases hc
    subst ex
    exact ⟨_, op_in_sign, fun v1 v2 H G B S Q RS r1 r2 q => ⟨c, z, r1.str, r2.str, q _ H G B .refl RS rfl⟩⟩
  · cases h
end
end Pv

set_option Elab.async false
set_option linter.all false
set_option maxRecDepth 100000
/-! SndD: expressions, form by form. -/
namespace Pv
open PySem PySem.Spec PyProof.Rows L2

def noStar : Expr → Bool
  | .Starred _ _ => false
  | _ => true
def plainBase : Expr → Bool
  | .Call _ _ _ _ => false
  | _ => true
def okIx : Expr → Bool
  | .Slice _ _ _ _ => false
  | _ => true
def plainT : Expr → Bool
  | .UnaryOp .Not _ _ => false
  | .BoolOp _ _ _ => false
  | .IfExp _ _ _ _ => false
  | .Compare _ _ _ _ => false
  | _ => true

section
variable {X : Cx}
theorem star_of {e : Expr} {es : List Expr} (h : noStar e = true) : starEach (e :: es) X.env = (false, eval e X.env) :: starEach es X.env := by
  cases e <;> first | rfl | cases h
theorem base_of {e : Expr} {n : Str} (h : plainBase e = true) : attributeBase e n X.env (eval e X.env) = eval e X.env := by
  cases e <;> first | rfl | cases h
theorem ix_of {e : Expr} (h : okIx e = true) : PlainIx e := by
  intro o i
  cases e <;> first | rfl | cases h
theorem true_of {e : Expr} (h : plainT e = true) : ∀ whole, isTrue e X.env whole = (do let v ← whole; standAt e.pos; holding [v] (truthy v)) := by
  intro whole
  cases e with
  | UnaryOp op a p => cases op <;> first | rfl | cases h
  | BoolOp _ _ _ => cases h
  | IfExp _ _ _ _ => cases h
  | Compare _ _ _ _ => cases h
  | _ => rfl
theorem plain_of {pos : Pos} : ∀ {es : List Expr}, es.all noStar = true → (backTo pos (starEach es X.env)).any (·.1) = false
  | [], _ => rfl
  | e :: es, h => by
    rw [List.all_cons, Bool.and_eq_true] at h
    rw [star_of h.1]
    show (false || (backTo pos (starEach es X.env)).any (·.1)) = false
    rw [plain_of h.2]
    rfl
theorem pe_no {x : Expr} : PE X x (fun _ _ _ => False) := ⟨fun _ _ _ _ _ _ h => h.elim⟩
theorem pt_no {x : Expr} : PT X x (fun _ _ _ => False) := ⟨fun _ _ _ _ _ _ h => h.elim⟩
theorem pw_no {x : Expr} : PW X x (fun _ _ _ => False) := ⟨fun _ _ _ _ _ _ _ h => h.elim⟩
end

section
variable {P : Prg} {cf : Nat → List D → Sto → Option (D × Sto)} {fa : Nat → Addr} {H0 : Hp} {X : Cx} {N : List Str} {sc : Scope}

theorem SE.t {x : Expr} {e : E} (h : SE P cf fa H0 X x e) (p : plainT x = true) : ST P cf fa H0 X x e := fun r S b S' hv =>
  (pt_val (h r S _ S' hv) (true_of p)).wk fun σ H Q ⟨G, B, R, RS, q⟩ => ⟨G, B, R, RS, fun v H' G' B' st rs dt => ⟨b, dt, q H' G' B' st rs⟩⟩

theorem s_bin {op : Operator} {a b : E} {xa xb : Expr} {pos : Pos} (ha : SB P cf fa H0 X xa a) (hb : SB P cf fa H0 X xb b) : SE P cf fa H0 X (.BinOp xa op xb pos) (.bin op a b) := by
  intro r S d S' h
  simp only [evE] at h
  obtain ⟨⟨d1, S1⟩, e1, h⟩ := Option.bind_eq_some_iff.mp h
  obtain ⟨⟨d2, S2⟩, e2, h⟩ := Option.bind_eq_some_iff.mp h
  obtain ⟨d', e3, h⟩ := Option.map_eq_some_iff.mp h
  cases h
  obtain ⟨rd, hop, good⟩ := binD_ok (X := X) (fa := fa) e3
  exact (pe_op hop (ha r S _ _ e1) (hb r S1 _ _ e2)).wk fun σ H Q ⟨G, B, R, RS, q⟩ => TB.two R RS fun v1 v2 H' G' B' st rs r1 r2 =>
    good v1 v2 H' G' B' _ Q rs r1 r2 fun v H2 G2 B2 st2 rs2 dt => q v H2 G2 B2 (st.trans st2) rs2 dt

theorem s_cmp (W : Wd P cf fa X N sc) {op : CmpOp} {a b : E} {xa xb : Expr} {pos : Pos} (ha : SB P cf fa H0 X xa a) (hb : SB P cf fa H0 X xb b) (hm : behindInMarks op xb = false) :
    SE P cf fa H0 X (.Compare xa [op] [xb] pos) (.cmp op a b) ∧ ST P cf fa H0 X (.Compare xa [op] [xb] pos) (.cmp op a b) := by
  refine ⟨fun r S d S' h => ?_, fun r S d S' h => ?_⟩
  · simp only [evE] at h
    obtain ⟨⟨d1, S1⟩, e1, h⟩ := Option.bind_eq_some_iff.mp h
    obtain ⟨⟨d2, S2⟩, e2, h⟩ := Option.bind_eq_some_iff.mp h
    obtain ⟨d', e3, h⟩ := Option.map_eq_some_iff.mp h
    cases h
    obtain ⟨rd, hop, good⟩ := cmpD_ok (fa := fa) W.un e3
    exact (pe_cmpR hop (ha r S _ _ e1) (hb r S1 _ _ e2) hm).wk fun σ H Q ⟨G, B, R, RS, q⟩ => TB.two R RS fun v1 v2 H' G' B' st rs r1 r2 =>
      good v1 v2 H' G' B' _ Q rs r1 r2 fun v H2 G2 B2 st2 rs2 dt => q v H2 G2 B2 (st.trans st2) rs2 dt
  · simp only [evE] at h
    obtain ⟨⟨d1, S1⟩, e1, h⟩ := Option.bind_eq_some_iff.mp h
    obtain ⟨⟨d2, S2⟩, e2, h⟩ := Option.bind_eq_some_iff.mp h
    obtain ⟨d', e3, h⟩ := Option.map_eq_some_iff.mp h
    cases h
    obtain ⟨rd, hop, good⟩ := cmpD_ok (fa := fa) W.un e3
    exact (pt_cmpR hop (ha r S _ _ e1) (hb r S1 _ _ e2) hm).wk fun σ H Q ⟨G, B, R, RS, q⟩ => TB.two R RS fun v1 v2 H' G' B' st rs r1 r2 =>
      good v1 v2 H' G' B' _ _ rs r1 r2 fun v H2 G2 B2 st2 rs2 dt => ⟨_, dt, q H2 G2 B2 (st.trans st2) rs2⟩

/-- a < b < c -/
theorem TB.three {r : Rho} {S S1 S2 S3 : Sto} {d1 d2 d3 : D} {σ : Slots} {H : Hp} {rd rd' : R2} {Q : VK} {G : Hp} {B : List Addr} (R : RelR X.K fa H0 r σ H G B) (RS : RelH X.K fa S H G B) {b1 b2 : Bool}
    (g1 : GoodR X.K fa rd (deB S2 d1) (deB S2 d2) (.bl b1)) : True := trivial

theorem s_neg {a : E} {xa : Expr} {pos : Pos} (ha : SE P cf fa H0 X xa a) : SE P cf fa H0 X (.UnaryOp .USub xa pos) (.neg a) := by
  intro r S d S' h
  simp only [evE] at h
  obtain ⟨⟨d1, S1⟩, e1, h⟩ := Option.bind_eq_some_iff.mp h
  cases d1 <;> first | cases h | skip
  exact (pe_un un_neg (ha r S _ _ e1)).wk fun σ H Q ⟨G, B, R, RS, q⟩ => ⟨G, B, R, RS, fun v H' G' B' st rs dt => ⟨_, dt, q _ H' G' B' st rs rfl⟩⟩

theorem s_not {a : E} {xa : Expr} {pos : Pos} (ha : SE P cf fa H0 X xa a) (ht : ST P cf fa H0 X xa a) : SE P cf fa H0 X (.UnaryOp .Not xa pos) (.not a) ∧ ST P cf fa H0 X (.UnaryOp .Not xa pos) (.not a) := by
  refine ⟨fun r S d S' h => ?_, fun r S d S' h => ?_⟩
  · simp only [evE] at h
    obtain ⟨⟨d1, S1⟩, e1, h⟩ := Option.bind_eq_some_iff.mp h
    cases d1 <;> first | cases h | skip
    exact (pe_not (ha r S _ _ e1)).wk fun σ H Q ⟨G, B, R, RS, q⟩ => ⟨G, B, R, RS, fun v H' G' B' st rs dt => ⟨_, dt, q _ H' G' B' st rs rfl⟩⟩
  · simp only [evE] at h
    obtain ⟨⟨d1, S1⟩, e1, h⟩ := Option.bind_eq_some_iff.mp h
    cases d1 <;> first | cases h | skip
    exact (pt_not (ht r S _ _ e1)).wk fun σ H Q ⟨G, B, R, RS, q⟩ => ⟨G, B, R, RS, fun H' G' B' st rs => q H' G' B' st rs⟩

variable (P cf fa H0 X)
/-- as SE and ST; and whatever the whole is, for and, or -/
def SW (x : Expr) (e : E) : Prop := ∀ r S b S', evE P cf e r S = some (.bl b, S') → PW X x (TBo X.K fa H0 r S b S')
variable {P cf fa H0 X}

theorem s_and2 {a b : E} {xa xb : Expr} {pos : Pos} (ha : SE P cf fa H0 X xa a) (ta : ST P cf fa H0 X xa a) (hb : SE P cf fa H0 X xb b) (tb : ST P cf fa H0 X xb b) :
    SE P cf fa H0 X (.BoolOp .And [xa, xb] pos) (.and a b) ∧ SW P cf fa H0 X (.BoolOp .And [xa, xb] pos) (.and a b) := by
  refine ⟨fun r S d S' h => ?_, fun r S d S' h => ?_⟩
  · simp only [evE] at h
    obtain ⟨⟨d1, S1⟩, e1, h⟩ := Option.bind_eq_some_iff.mp h
    cases d1 with
    | bl c =>
      cases c with
      | true => exact (pe_and (ha r S _ _ e1) (pe_one (hb r S1 _ _ h))).wk fun σ H Q ⟨G, B, R, RS, q⟩ => ⟨G, B, R, RS, fun v H' G' B' st rs dt => ⟨true, dt, (if_pos rfl).symm ▸ ⟨G', B', R.step st, rs, fun v2 H2 G2 B2 st2 rs2 d2 => q v2 H2 G2 B2 (st.trans st2) rs2 d2⟩⟩⟩
      | false =>
        cases h
        exact (pe_and (ha r S _ _ e1) (pe_one pe_no)).wk fun σ H Q ⟨G, B, R, RS, q⟩ => ⟨G, B, R, RS, fun v H' G' B' st rs dt => ⟨false, dt, iteF (q _ H' G' B' st rs rfl)⟩⟩
    | _ => cases h
  · simp only [evE] at h
    obtain ⟨⟨d1, S1⟩, e1, h⟩ := Option.bind_eq_some_iff.mp h
    cases d1 with
    | bl c =>
      cases c with
      | true => exact (pw_and (ta r S _ _ e1) (pw_and1 (tb r S1 _ _ h))).wk fun σ H Q ⟨G, B, R, RS, q⟩ => ⟨G, B, R, RS, fun H' G' B' st rs => iteT ⟨G', B', R.step st, rs, fun H2 G2 B2 st2 rs2 => q H2 G2 B2 (st.trans st2) rs2⟩⟩
      | false =>
        cases h
        exact (pw_and (ta r S _ _ e1) (pw_and1 pt_no)).wk fun σ H Q ⟨G, B, R, RS, q⟩ => ⟨G, B, R, RS, fun H' G' B' st rs => iteF (q H' G' B' st rs)⟩
    | _ => cases h
theorem s_andm {a b : E} {xa xb xc : Expr} {xs : List Expr} {pos : Pos} (ha : SE P cf fa H0 X xa a) (ta : ST P cf fa H0 X xa a) (hb : SE P cf fa H0 X (.BoolOp .And (xb :: xc :: xs) pos) b) (tb : SW P cf fa H0 X (.BoolOp .And (xb :: xc :: xs) pos) b) :
    SE P cf fa H0 X (.BoolOp .And (xa :: xb :: xc :: xs) pos) (.and a b) ∧ SW P cf fa H0 X (.BoolOp .And (xa :: xb :: xc :: xs) pos) (.and a b) := by
  refine ⟨fun r S d S' h => ?_, fun r S d S' h => ?_⟩
  · simp only [evE] at h
    obtain ⟨⟨d1, S1⟩, e1, h⟩ := Option.bind_eq_some_iff.mp h
    cases d1 with
    | bl c =>
      cases c with
      | true => exact (pe_and (ha r S _ _ e1) (hb r S1 _ _ h)).wk fun σ H Q ⟨G, B, R, RS, q⟩ => ⟨G, B, R, RS, fun v H' G' B' st rs dt => ⟨true, dt, iteT ⟨G', B', R.step st, rs, fun v2 H2 G2 B2 st2 rs2 d2 => q v2 H2 G2 B2 (st.trans st2) rs2 d2⟩⟩⟩
      | false =>
        cases h
        exact (pe_and (ha r S _ _ e1) pe_no).wk fun σ H Q ⟨G, B, R, RS, q⟩ => ⟨G, B, R, RS, fun v H' G' B' st rs dt => ⟨false, dt, iteF (q _ H' G' B' st rs rfl)⟩⟩
    | _ => cases h
  · simp only [evE] at h
    obtain ⟨⟨d1, S1⟩, e1, h⟩ := Option.bind_eq_some_iff.mp h
    cases d1 with
    | bl c =>
      cases c with
      | true => exact (pw_and (ta r S _ _ e1) (tb r S1 _ _ h)).wk fun σ H Q ⟨G, B, R, RS, q⟩ => ⟨G, B, R, RS, fun H' G' B' st rs => iteT ⟨G', B', R.step st, rs, fun H2 G2 B2 st2 rs2 => q H2 G2 B2 (st.trans st2) rs2⟩⟩
      | false =>
        cases h
        exact (pw_and (ta r S _ _ e1) pw_no).wk fun σ H Q ⟨G, B, R, RS, q⟩ => ⟨G, B, R, RS, fun H' G' B' st rs => iteF (q H' G' B' st rs)⟩
    | _ => cases h
theorem s_or2 {a b : E} {xa xb : Expr} {pos : Pos} (ha : SE P cf fa H0 X xa a) (ta : ST P cf fa H0 X xa a) (hb : SE P cf fa H0 X xb b) (tb : ST P cf fa H0 X xb b) :
    SE P cf fa H0 X (.BoolOp .Or [xa, xb] pos) (.or a b) ∧ SW P cf fa H0 X (.BoolOp .Or [xa, xb] pos) (.or a b) := by
  refine ⟨fun r S d S' h => ?_, fun r S d S' h => ?_⟩
  · simp only [evE] at h
    obtain ⟨⟨d1, S1⟩, e1, h⟩ := Option.bind_eq_some_iff.mp h
    cases d1 with
    | bl c =>
      cases c with
      | false => exact (pe_or (ha r S _ _ e1) (pe_one (hb r S1 _ _ h))).wk fun σ H Q ⟨G, B, R, RS, q⟩ => ⟨G, B, R, RS, fun v H' G' B' st rs dt => ⟨false, dt, iteF ⟨G', B', R.step st, rs, fun v2 H2 G2 B2 st2 rs2 d2 => q v2 H2 G2 B2 (st.trans st2) rs2 d2⟩⟩⟩
      | true =>
        cases h
        exact (pe_or (ha r S _ _ e1) (pe_one pe_no)).wk fun σ H Q ⟨G, B, R, RS, q⟩ => ⟨G, B, R, RS, fun v H' G' B' st rs dt => ⟨true, dt, iteT (q _ H' G' B' st rs rfl)⟩⟩
    | _ => cases h
  · simp only [evE] at h
    obtain ⟨⟨d1, S1⟩, e1, h⟩ := Option.bind_eq_some_iff.mp h
    cases d1 with
    | bl c =>
      cases c with
      | false => exact (pw_or (ta r S _ _ e1) (pw_or1 (tb r S1 _ _ h))).wk fun σ H Q ⟨G, B, R, RS, q⟩ => ⟨G, B, R, RS, fun H' G' B' st rs => iteF ⟨G', B', R.step st, rs, fun H2 G2 B2 st2 rs2 => q H2 G2 B2 (st.trans st2) rs2⟩⟩
      | true =>
        cases h
        exact (pw_or (ta r S _ _ e1) (pw_or1 pt_no)).wk fun σ H Q ⟨G, B, R, RS, q⟩ => ⟨G, B, R, RS, fun H' G' B' st rs => iteT (q H' G' B' st rs)⟩
    | _ => cases h
theorem s_orm {a b : E} {xa xb xc : Expr} {xs : List Expr} {pos : Pos} (ha : SE P cf fa H0 X xa a) (ta : ST P cf fa H0 X xa a) (hb : SE P cf fa H0 X (.BoolOp .Or (xb :: xc :: xs) pos) b) (tb : SW P cf fa H0 X (.BoolOp .Or (xb :: xc :: xs) pos) b) :
    SE P cf fa H0 X (.BoolOp .Or (xa :: xb :: xc :: xs) pos) (.or a b) ∧ SW P cf fa H0 X (.BoolOp .Or (xa :: xb :: xc :: xs) pos) (.or a b) := by
  refine ⟨fun r S d S' h => ?_, fun r S d S' h => ?_⟩
  · simp only [evE] at h
    obtain ⟨⟨d1, S1⟩, e1, h⟩ := Option.bind_eq_some_iff.mp h
    cases d1 with
    | bl c =>
      cases c with
      | false => exact (pe_or (ha r S _ _ e1) (hb r S1 _ _ h)).wk fun σ H Q ⟨G, B, R, RS, q⟩ => ⟨G, B, R, RS, fun v H' G' B' st rs dt => ⟨false, dt, iteF ⟨G', B', R.step st, rs, fun v2 H2 G2 B2 st2 rs2 d2 => q v2 H2 G2 B2 (st.trans st2) rs2 d2⟩⟩⟩
      | true =>
        cases h
        exact (pe_or (ha r S _ _ e1) pe_no).wk fun σ H Q ⟨G, B, R, RS, q⟩ => ⟨G, B, R, RS, fun v H' G' B' st rs dt => ⟨true, dt, iteT (q _ H' G' B' st rs rfl)⟩⟩
    | _ => cases h
  · simp only [evE] at h
    obtain ⟨⟨d1, S1⟩, e1, h⟩ := Option.bind_eq_some_iff.mp h
    cases d1 with
    | bl c =>
      cases c with
      | false => exact (pw_or (ta r S _ _ e1) (tb r S1 _ _ h)).wk fun σ H Q ⟨G, B, R, RS, q⟩ => ⟨G, B, R, RS, fun H' G' B' st rs => iteF ⟨G', B', R.step st, rs, fun H2 G2 B2 st2 rs2 => q H2 G2 B2 (st.trans st2) rs2⟩⟩
      | true =>
        cases h
        exact (pw_or (ta r S _ _ e1) pw_no).wk fun σ H Q ⟨G, B, R, RS, q⟩ => ⟨G, B, R, RS, fun H' G' B' st rs => iteT (q H' G' B' st rs)⟩
    | _ => cases h

theorem s_ite {c a b : E} {xc xa xb : Expr} {pos : Pos} (hc : ST P cf fa H0 X xc c) (ha : SE P cf fa H0 X xa a) (hb : SE P cf fa H0 X xb b) : SE P cf fa H0 X (.IfExp xc xa xb pos) (.ite c a b) := by
  intro r S d S' h
  simp only [evE] at h
  obtain ⟨⟨d1, S1⟩, e1, h⟩ := Option.bind_eq_some_iff.mp h
  cases d1 with
  | bl k =>
    cases k with
    | true => exact (pe_ifExp (hc r S _ _ e1) (ha r S1 _ _ h) pe_no).wk fun σ H Q ⟨G, B, R, RS, q⟩ => ⟨G, B, R, RS, fun H' G' B' st rs => iteT ⟨G', B', R.step st, rs, fun v2 H2 G2 B2 st2 rs2 d2 => q v2 H2 G2 B2 (st.trans st2) rs2 d2⟩⟩
    | false => exact (pe_ifExp (hc r S _ _ e1) pe_no (hb r S1 _ _ h)).wk fun σ H Q ⟨G, B, R, RS, q⟩ => ⟨G, B, R, RS, fun H' G' B' st rs => iteF ⟨G', B', R.step st, rs, fun v2 H2 G2 B2 st2 rs2 d2 => q v2 H2 G2 B2 (st.trans st2) rs2 d2⟩⟩
  | _ => cases h

/-! displays -/
theorem sa_nil : SA P cf fa H0 X [] [] := fun r S ds S' h => by
  have e : (([] : List D), S) = (ds, S') := Option.some.inj (by simpa only [evEs] using h)
  cases e
  exact pa_nil.wk fun σ H Q ⟨G, B, R, RS, q⟩ => q [] H G B .refl RS rfl
theorem evEs_cons {e : E} {es : List E} {r : Rho} {S : Sto} (h : ∀ x, e ≠ .star x) : evEs P cf (e :: es) r S = (evE P cf e r S).bind fun p => (evEs P cf es r p.2).map fun q => (p.1 :: q.1, q.2) := by
  cases e <;> first | rfl | (exact absurd rfl (h _))
theorem sa_cons {e : E} {es : List E} {x : Expr} {xs : List Expr} (n : ∀ y, e ≠ .star y) (hx : noStar x = true) (he : SE P cf fa H0 X x e) (hes : SA P cf fa H0 X xs es) : SA P cf fa H0 X (x :: xs) (e :: es) := fun r S ds S' h => by
  rw [evEs_cons n] at h
  obtain ⟨⟨d1, S1⟩, e1, h⟩ := Option.bind_eq_some_iff.mp h
  obtain ⟨⟨d2, S2⟩, e2, h⟩ := Option.map_eq_some_iff.mp h
  cases h
  exact (pa_cons (he r S _ _ e1) (hes r S1 _ _ e2) (star_of hx)).wk fun σ H Q ⟨G, B, R, RS, q⟩ => ⟨G, B, R, RS, fun v H1 G1 B1 st rs dt => ⟨G1, B1, R.step st, rs, fun vs H2 G2 B2 st2 rs2 ds => q (v :: vs) H2 G2 B2 (st.trans st2) rs2 ⟨v, vs, rfl, st2.dat dt, ds⟩⟩⟩

theorem sa_star {e : E} {es : List E} {x : Expr} {xs : List Expr} {pos : Pos} (he : SB P cf fa H0 X x e) (hes : SA P cf fa H0 X xs es) : SA P cf fa H0 X (.Starred x pos :: xs) (.star e :: es) := fun r S ds S' h => by
  simp only [evEs] at h
  obtain ⟨⟨d1, S1⟩, e1, h⟩ := Option.bind_eq_some_iff.mp h
  obtain ⟨ys, e2, h⟩ := Option.bind_eq_some_iff.mp h
  obtain ⟨⟨d3, S3⟩, e3, h⟩ := Option.map_eq_some_iff.mp h
  cases h
  refine (StX.pa_star (he r S _ _ e1) (hes r S1 _ _ e3)).wk fun σ H Q ⟨G, B, R, RS, q⟩ => ⟨G, B, R, RS, fun v H1 G1 B1 own st rs ok => ?_⟩
  have rb := Rb.of ok rs
  have key : ∃ a ws, v = .ref a ∧ (SqT X.K H1 a ws ∨ SqL X.K H1 a ws) ∧ Dats X.K fa G1 B1 ws ys := by
    unfold itemsD at e2
    split at e2
    · rename_i zs ez
      cases e2
      obtain ⟨a, ws, e, h1, h2⟩ := rb.seq rs.sub ez
      exact ⟨a, ws, e, .inr h1, h2⟩
    · rename_i zs ez
      cases e2
      have ez' := wk_eq ez (fun _ z => by cases z)
      rw [ez'] at rb
      obtain ⟨a, ws, e, h1, h2, _⟩ := rb.tup rs.sub
      exact ⟨a, ws, e, .inl h1, h2⟩
    · cases e2
  obtain ⟨a, ws, rfl, hs, hd⟩ := key
  exact ⟨a, ws, rfl, hs, ⟨G1, B1, R.step st, rs, fun vs H2 G2 B2 st2 rs2 ds => q (ws ++ vs) H2 G2 B2 (st.trans st2) rs2 ((st2.dats hd).app ds)⟩⟩
end
end Pv

set_option Elab.async false
set_option linter.all false
set_option maxRecDepth 100000
/-! SndE: displays, subscripts, calls. -/
namespace Pv
open PySem PySem.Spec PyProof.Rows L2

section
variable {P : Prg} {cf : Nat → List D → Sto → Option (D × Sto)} {fa : Nat → Addr} {H0 : Hp} {X : Cx} {N : List Str} {sc : Scope}

theorem s_tup {es : List E} {xs : List Expr} {k : Nat} {pos : Pos} (h : SA P cf fa H0 X xs es) : SE P cf fa H0 X (.Tuple xs k pos) (.tup es) := by
  intro r S d S' hv
  simp only [evE] at hv
  obtain ⟨⟨ds, S1⟩, e1, hv⟩ := Option.bind_eq_some_iff.mp hv
  split at hv
  · rename_i c
    cases hv
    refine (pe_tup (h r S _ _ e1)).wk fun σ H Q ⟨G, B, R, RS, q⟩ => ⟨G, B, R, RS, fun vs H1 G1 B1 st rs dt => ⟨?_, fun p hp => ?_⟩⟩
    · rw [Dats.length _ _ dt, sizeLine_eq]; have c' : ds.length ≤ 100000 := c; omega
    · obtain ⟨st2, rs2⟩ := rs.lay (o := .tup vs) hp
      exact q _ _ _ _ (st.trans st2) rs2 ⟨p, vs, rfl, .inl (.inl upd_same), st2.dats dt⟩
  · cases hv

variable (P cf fa H0 X)
/-- a new list, not yet given away -/
def TF (K : PySem.W.Frag) (r : Rho) (S : Sto) (ds : List D) (S' : Sto) : TE := fun σ H Q => ∃ G B, RelR K fa H0 r σ H G B ∧ RelH K fa S H G B ∧
  ∀ p vs H' G' B', H' p = none → Stp H G B H' G' B' → RelH K fa S' H' G' B' → Dats K fa G' B' vs ds → Q (.ref p) (upd H' p (.lst vs))
def SF (x : Expr) (e : E) : Prop := ∀ r S d S', evE P cf e r S = some (d, S') → ∃ ds, d = .lst ds ∧ PE X x (TF fa H0 X.K r S ds S')
variable {P cf fa H0 X}
/-- a new list that never changes -/
theorem SF.e {x : Expr} {e : E} (h : SF P cf fa H0 X x e) : SE P cf fa H0 X x e := fun r S d S' hv => by
  obtain ⟨ds, rfl, h⟩ := h r S d S' hv
  refine h.wk fun σ H Q ⟨G, B, R, RS, q⟩ => ⟨G, B, R, RS, fun p vs H' G' B' hp st rs dt => ?_⟩
  obtain ⟨st2, rs2⟩ := rs.lay (o := .lst vs) hp
  exact q _ _ _ _ (st.trans st2) rs2 ⟨p, vs, rfl, upd_same, st2.dats dt⟩

theorem f_lst {es : List E} {xs : List Expr} {pos : Pos} (h : SA P cf fa H0 X xs es) : SF P cf fa H0 X (.List xs pos) (.lst es) := by
  intro r S d S' hv
  simp only [evE] at hv
  obtain ⟨⟨ds, S1⟩, e1, hv⟩ := Option.bind_eq_some_iff.mp hv
  split at hv
  · rename_i c
    cases hv
    refine ⟨ds, rfl, (pe_lst (h r S _ _ e1)).wk fun σ H Q ⟨G, B, R, RS, q⟩ => ⟨G, B, R, RS, fun vs H1 G1 B1 st rs dt => ⟨?_, fun p hp => q p vs H1 G1 B1 hp st rs dt⟩⟩⟩
    rw [Dats.length _ _ dt, sizeLine_eq]; have c' : ds.length ≤ 100000 := c; omega
  · cases hv
theorem s_box {es : List E} {xs : List Expr} {pos : Pos} (h : SA P cf fa H0 X xs es) : SE P cf fa H0 X (.List xs pos) (.box es) := by
  intro r S d S' hv
  simp only [evE] at hv
  obtain ⟨⟨ds, S1⟩, e1, hv⟩ := Option.bind_eq_some_iff.mp hv
  split at hv
  · rename_i c
    cases hv
    obtain ⟨c1, c2⟩ := Bool.and_eq_true_iff.mp c
    have c2' : ds.length ≤ 100000 := of_decide_eq_true c2
    refine (pe_lst (h r S _ _ e1)).wk fun σ H Q ⟨G, B, R, RS, q⟩ => ⟨G, B, R, RS, fun vs H1 G1 B1 st rs dt => ⟨?_, fun p hp => ?_⟩⟩
    · rw [Dats.length _ _ dt, sizeLine_eq]; omega
    · obtain ⟨st2, rs2⟩ := rs.layB hp dt c1
      exact q _ _ _ _ (st.trans st2) rs2 ⟨p, rfl, by rw [List.getElem?_append_right (by rw [rs.len]; exact Nat.le_refl _), rs.len, Nat.sub_self]; rfl⟩
  · cases hv

/-! subscripts -/
theorem atI_dat {K : PySem.W.Frag} {G : Hp} {B : List Addr} {vs : List V} {ds : List D} {i : Int} {d : D} (h : Dats K fa G B vs ds) (e : atI ds i = some d) : ∃ v, atI vs i = some v ∧ Dat K fa G B v d := by
  unfold atI at e ⊢
  obtain ⟨j, e1, e2⟩ := Option.bind_eq_some_iff.mp e
  obtain ⟨v, e3, q⟩ := Dats.get h e2
  rw [Dats.length _ _ h, e1]
  exact ⟨v, e3, q⟩
theorem s_idx {a i : E} {xa xi : Expr} {pos : Pos} (ha : SB P cf fa H0 X xa a) (hi : SE P cf fa H0 X xi i) (hx : okIx xi = true) : SE P cf fa H0 X (.Subscript xa xi pos) (.idx a i) := by
  intro r S d S' h
  simp only [evE] at h
  obtain ⟨⟨d1, S1⟩, e1, h⟩ := Option.bind_eq_some_iff.mp h
  obtain ⟨⟨d2, S2⟩, e2, h⟩ := Option.bind_eq_some_iff.mp h
  obtain ⟨d', e3, h⟩ := Option.map_eq_some_iff.mp h
  cases h
  unfold idxD at e3
  split at e3
  · rename_i ys k ey ek
    have ek' : d2 = .int k := ek
    subst ek'
    refine (pe_ix ix_list (ha r S _ _ e1) (hi r S1 _ _ e2) (ix_of hx)).wk fun σ H Q ⟨G, B, R, RS, q⟩ => ⟨G, B, R, RS, fun v1 H1 G1 B1 own st rs ok => ⟨G1, B1, R.step st, rs, fun v2 H2 G2 B2 st2 rs2 dt2 => ?_⟩⟩
    obtain ⟨p, vs, rfl, h1, dts⟩ := (Rb.of (ok.step st2) rs2).seq rs2.sub ey
    obtain ⟨v, ev, dv⟩ := atI_dat dts e3
    exact ⟨p, vs, _, v, rfl, dt2, h1, ev, q v H2 G2 B2 (st.trans st2) rs2 dv⟩
  · rename_i ys k ey ek
    have ek' : d2 = .int k := ek
    subst ek'
    have ey' := wk_eq ey (fun _ z => by cases z)
    refine (pe_ix ix_tup (ha r S _ _ e1) (hi r S1 _ _ e2) (ix_of hx)).wk fun σ H Q ⟨G, B, R, RS, q⟩ => ⟨G, B, R, RS, fun v1 H1 G1 B1 own st rs ok => ⟨G1, B1, R.step st, rs, fun v2 H2 G2 B2 st2 rs2 dt2 => ?_⟩⟩
    have rb := Rb.of (ok.step st2) rs2
    rw [ey'] at rb
    obtain ⟨p, vs, rfl, h1, dts, _⟩ := rb.tup rs2.sub
    obtain ⟨v, ev, dv⟩ := atI_dat dts e3
    exact ⟨p, vs, _, v, rfl, dt2, h1, ev, q v H2 G2 B2 (st.trans st2) rs2 dv⟩
  · rename_i z k ey ek
    have ek' : d2 = .int k := ek
    subst ek'
    have ey' := wk_eq ey (fun _ z => by cases z)
    split at e3
    · rename_i c
      obtain ⟨ch, e4, rfl⟩ := Option.map_eq_some_iff.mp e3
      refine (pe_ix ix_str (ha r S _ _ e1) (hi r S1 _ _ e2) (ix_of hx)).wk fun σ H Q ⟨G, B, R, RS, q⟩ => ⟨G, B, R, RS, fun v1 H1 G1 B1 own st rs ok => ⟨G1, B1, R.step st, rs, fun v2 H2 G2 B2 st2 rs2 dt2 => ?_⟩⟩
      have rb := Rb.of (ok.step st2) rs2
      rw [ey'] at rb
      exact ⟨z, _, ch, rb.str, dt2, by rw [sizeLine_eq]; omega, e4, q _ H2 G2 B2 (st.trans st2) rs2 rfl⟩
    · cases e3
  · cases e3

variable (P cf fa H0 X)
def SO (x : Option Expr) (e : Option E) : Prop := ∀ r S o S', evO P cf e r S = some (o, S') → PO X x (TOp X.K fa H0 r S o S')
variable {P cf fa H0 X}
theorem so_none : SO P cf fa H0 X none none := fun r S o S' h => by
  have e : ((none : Option Int), S) = (o, S') := Option.some.inj (by simpa only [evO] using h)
  cases e
  exact ⟨fun pins s σ H Q I ⟨G, B, R, RS, q⟩ => po_none.run pins s σ H Q I (q H G B .refl RS)⟩
theorem so_some {x : Expr} {e : E} (he : SE P cf fa H0 X x e) : SO P cf fa H0 X (some x) (some e) := fun r S o S' h => by
  simp only [evO] at h
  obtain ⟨⟨d1, S1⟩, e1, h⟩ := Option.bind_eq_some_iff.mp h
  cases d1 <;> first | cases h | skip
  exact ⟨fun pins s σ H Q I ⟨G, B, R, RS, q⟩ => (po_some (he r S _ _ e1)).run pins s σ H Q I ⟨G, B, R, RS, fun v H1 G1 B1 st rs dt => ⟨_, dt, q H1 G1 B1 st rs⟩⟩⟩

theorem cut_dats {K : PySem.W.Frag} {G : Hp} {B : List Addr} {vs : List V} {ds : List D} {lo hi : Option Int} (h : Dats K fa G B vs ds) : Dats K fa G B (cutV vs lo hi) (cutD ds lo hi) := by
  have e := Dats.length _ _ h
  unfold cutV cutD
  rw [e]
  exact Dats.take _ (Dats.drop _ h)
theorem cut_whole {α : Type} {xs : List α} {lo hi : Option Int} (h : HT.sIx xs.length 0 lo = 0 ∧ HT.sIx xs.length xs.length hi = xs.length) : cutD xs lo hi = xs := by
  unfold cutD
  rw [h.1, h.2]
  simp
theorem s_slc {a : E} {lo hi : Option E} {xa : Expr} {xlo xhi : Option Expr} {p2 pos : Pos} (ha : SB P cf fa H0 X xa a) (hl : SO P cf fa H0 X xlo lo) (hh : SO P cf fa H0 X xhi hi) :
    SE P cf fa H0 X (.Subscript xa (.Slice xlo xhi none p2) pos) (.slc a lo hi) := by
  intro r S d S' h
  simp only [evE] at h
  obtain ⟨⟨d1, S1⟩, e1, h⟩ := Option.bind_eq_some_iff.mp h
  obtain ⟨⟨o1, S2⟩, e2, h⟩ := Option.bind_eq_some_iff.mp h
  obtain ⟨⟨o2, S3⟩, e3, h⟩ := Option.bind_eq_some_iff.mp h
  obtain ⟨d', e4, h⟩ := Option.map_eq_some_iff.mp h
  cases h
  unfold slcD at e4
  split at e4
  · rename_i ys _ _ ey
    cases e4
    refine (pe_slice sl_list (ha r S _ _ e1) (hl r S1 _ _ e2) (hh r S2 _ _ e3)).wk fun σ H Q ⟨G, B, R, RS, q⟩ => ⟨G, B, R, RS, fun v1 H1 G1 B1 own st rs ok => ⟨G1, B1, R.step st, rs, fun H2 G2 B2 st2 rs2 =>
      ⟨G2, B2, (R.step st).step st2, rs2, fun H3 G3 B3 st3 rs3 => ?_⟩⟩⟩
    obtain ⟨p, vs, rfl, h1, dts⟩ := (Rb.of ((ok.step st2).step st3) rs3).seq rs3.sub ey
    refine ⟨p, vs, rfl, h1, fun p2 hp => ?_⟩
    obtain ⟨st4, rs4⟩ := rs3.lay (o := .lst (cutV vs o1 o2)) hp
    exact q _ _ _ _ (((st.trans st2).trans st3).trans st4) rs4 ⟨p2, _, rfl, upd_same, st4.dats (cut_dats dts)⟩
  · rename_i ys _ _ ey
    cases e4
    have ey' := wk_eq ey (fun _ z => by cases z)
    refine (pe_slice sl_tupA (ha r S _ _ e1) (hl r S1 _ _ e2) (hh r S2 _ _ e3)).wk fun σ H Q ⟨G, B, R, RS, q⟩ => ⟨G, B, R, RS, fun v1 H1 G1 B1 own st rs ok => ⟨G1, B1, R.step st, rs, fun H2 G2 B2 st2 rs2 =>
      ⟨G2, B2, (R.step st).step st2, rs2, fun H3 G3 B3 st3 rs3 => ?_⟩⟩⟩
    have rb := Rb.of ((ok.step st2).step st3) rs3
    rw [ey'] at rb
    obtain ⟨p, vs, rfl, h1, dts, hg⟩ := rb.tup rs3.sub
    have ln := Dats.length _ _ dts
    refine ⟨p, vs, rfl, h1, fun hw => ?_, fun hw p2 hp => ?_⟩
    · rw [ln] at hw
      have q' := q (.ref p) H3 G3 B3 ((st.trans st2).trans st3) rs3
      rw [cut_whole hw] at q'
      exact q' ⟨p, vs, rfl, hg, dts⟩
    · obtain ⟨st4, rs4⟩ := rs3.lay (o := .tup (cutV vs o1 o2)) hp
      exact q _ _ _ _ (((st.trans st2).trans st3).trans st4) rs4 ⟨p2, _, rfl, .inl (.inl upd_same), st4.dats (cut_dats dts)⟩
  · cases e4

theorem f_rev {a : E} {xa : Expr} {k : Nat} {p1 p2 p3 pos : Pos} (ha : SB P cf fa H0 X xa a) : SF P cf fa H0 X (.Subscript xa (.Slice none none (some (.UnaryOp .USub (.Constant (.int 1) k p1) p2)) p3) pos) (.rev a) := by
  intro r S d S' h
  simp only [evE] at h
  obtain ⟨⟨d1, S1⟩, e1, h⟩ := Option.bind_eq_some_iff.mp h
  obtain ⟨d', e4, h⟩ := Option.map_eq_some_iff.mp h
  cases h
  unfold revD at e4
  split at e4
  · rename_i ys ey
    cases e4
    refine ⟨_, rfl, (pe_revL (ha r S _ _ e1)).wk fun σ H Q ⟨G, B, R, RS, q⟩ => ⟨G, B, R, RS, fun v1 H1 G1 B1 own st rs ok => ?_⟩⟩
    have rb := Rb.of ok rs
    rw [ey] at rb
    obtain ⟨p, vs, rfl, h1, dts⟩ := rb.lst rs.sub
    exact ⟨p, vs, rfl, .of h1, fun p2 hp => q p2 _ H1 G1 B1 hp st rs (Dats.rev dts)⟩
  · cases e4

/-! calls of defs -/
theorem sp_go {K : PySem.W.Frag} {np : Nat} {ev : List D → Sto → Option (D × Sto)} {vs : List V} {H G : Hp} {B : List Addr} {S S' : Sto} {ds : List D} {d : D} {Q : VK} (hl : vs.length = np) (RS : RelH K fa S H G B) (dt : Dats K fa G B vs ds) (e : ev ds S = some (d, S'))
    (q : ∀ v H' G' B', Stp H G B H' G' B' → RelH K fa S' H' G' B' → Dat K fa G' B' v d → Q v H') : spOf K fa np ev vs H Q := ⟨hl, G, B, S, ds, d, S', RS, dt, e, q⟩

theorem run_call (W : Wd P cf fa X N sc) {j : Nat} {g : Fn} (hj : P.fns[j]? = some g) {pins : List (Addr × Obj)} {σ : Slots} {H G : Hp} {B : List Addr} {s : Shared} {Q : VK} {us : List Value} {vs : List V} {ds : List D} {S S' : Sto} {d : D}
    (I : Inv X pins σ H s) (r : Vals vs us) (RS : RelH X.K fa S H G B) (dt : Dats X.K fa G B vs ds) (e : cf j ds S = some (d, S')) (hl : ds.length = g.np)
    (q : ∀ v H' G' B', Stp H G B H' G' B' → RelH X.K fa S' H' G' B' → Dat X.K fa G' B' v d → Q v H') : wpAny (model X.prog X.w) X.A (call (.ref (fa j)) us) (EP X pins σ Q) X.xe s := by
  obtain ⟨k, hr, hf⟩ := W.run
  obtain ⟨fd, ⟨hb, _⟩, F⟩ := hf j g hj
  have sp : spOf X.K fa g.np (cf j) vs H Q := sp_go (by rw [Dats.length _ _ dt, hl]) RS dt e q
  have ln : (us ++ ([] : List Value)).length = (g.N.take g.np).length := by rw [List.append_nil, ← r.length]; exact F.len vs H Q sp
  have hb' := hb s us I.kIn ln
  rw [List.append_nil] at hb'
  refine wpAny_call (codeAny_mono (runG F hr W.gd hb' I r sp) fun res s' hq => ?_)
  cases res with
  | error e => exact hq
  | ok fl =>
    cases fl with
    | ret u => exact hq
    | next => exact False.elim hq
    | brk => exact False.elim hq
    | cont => exact False.elim hq

/-- the callee's number of arguments is right where it gives an answer -/
def Arity (P : Prg) (cf : Nat → List D → Sto → Option (D × Sto)) : Prop := ∀ (j : Nat) (g : Fn) (ds : List D) (S : Sto) (p : D × Sto), P.fns[j]? = some g → cf j ds S = some p → ds.length = g.np

theorem s_call (W : Wd P cf fa X N sc) (ar : Arity P cf) {j : Nat} {g : Fn} (hj : P.fns[j]? = some g) {es : List E} {x : Expr} {xs : List Expr} {p pos : Pos} (hg : Gl X g.name) (hd : (g.name == ("__debug__" : Str)) = false) (hx : noStar x = true) (hxs : xs.all noStar = true)
    (ha : SA P cf fa H0 X (x :: xs) es) : SE P cf fa H0 X (.Call (.Name g.name p) (x :: xs) [] pos) (.call j es) := by
  intro r S d S' h
  simp only [evE] at h
  obtain ⟨⟨ds, S1⟩, e1, h⟩ := Option.bind_eq_some_iff.mp h
  refine ⟨fun pins s σ H Q I ⟨G, B, R, RS, q⟩ => ?_⟩
  refine wpAny_Call_Name_kw (ld_glob I hg (W.fnv j g hj).1 ?_ hd)
  refine PySem.W.callWith_K (h₀ := X.base) I.ok.mod.kin (W.fnv j g hj).2 (thn ((ha r S _ _ e1).run pos pins s σ H (fun vs H1 => ∃ G1 B1, Stp H G B H1 G1 B1 ∧ RelH X.K fa S1 H1 G1 B1 ∧ Dats X.K fa G1 B1 vs ds) I ⟨G, B, R, RS, fun vs H1 G1 B1 st rs dt => ⟨G1, B1, st, rs, dt⟩⟩) fun us s1 ⟨vs, H1, I1, rv, G1, B1, st, rs, dt⟩ => ⟨I1.kIn, ?_⟩) (star_of hx) (plain_of hxs)
  exact run_call W hj I1 rv rs dt h (ar j g ds S1 _ hj h) fun v H' G' B' st2 rs2 dv => q v H' G' B' (st.trans st2) rs2 dv
theorem s_call0 (W : Wd P cf fa X N sc) (ar : Arity P cf) {j : Nat} {g : Fn} (hj : P.fns[j]? = some g) {p pos : Pos} (hg : Gl X g.name) (hd : (g.name == ("__debug__" : Str)) = false) : SE P cf fa H0 X (.Call (.Name g.name p) [] [] pos) (.call j []) := by
  intro r S d S' h
  simp only [evE, evEs, Option.bind_some] at h
  refine ⟨fun pins s σ H Q I ⟨G, B, R, RS, q⟩ => ?_⟩
  refine wpAny_Call_Name_kw (ld_glob I hg (W.fnv j g hj).1 ?_ hd)
  exact PySem.W.callWith_K0 I.kIn (W.fnv j g hj).2 (run_call W hj (us := []) (vs := []) (ds := []) I .nil RS (show Dats X.K fa G B [] [] from rfl) h (ar j g [] S _ hj h) q)
end
end Pv

set_option Elab.async false
set_option linter.all false
set_option maxRecDepth 100000
/-! SndF: calls with keywords, built-ins. -/
namespace Pv
open PySem PySem.Spec PyProof.Rows L2

section
variable {P : Prg} {cf : Nat → List D → Sto → Option (D × Sto)} {fa : Nat → Addr} {H0 : Hp} {X : Cx} {N : List Str} {sc : Scope}

/-! keywords -/
variable (P cf fa H0 X)
def SK (xs : List Keyword) (es : List E) : Prop := ∀ r S ds S', evEs P cf es r S = some (ds, S') → PK X xs (TDs X.K fa H0 r S ds S')
variable {P cf fa H0 X}
theorem sk_nil : SK P cf fa H0 X [] [] := fun r S ds S' h => by
  have e : (([] : List D), S) = (ds, S') := Option.some.inj (by simpa only [evEs] using h)
  cases e
  exact ⟨fun pos pins s σ H Q I ⟨G, B, R, RS, q⟩ => pk_nil.run pos pins s σ H Q I (q [] H G B .refl RS rfl)⟩
theorem sk_cons {e : E} {es : List E} {nm : Option Str} {x : Expr} {kp : Pos} {xs : List Keyword} (n : ∀ y, e ≠ .star y) (he : SE P cf fa H0 X x e) (hes : SK P cf fa H0 X xs es) : SK P cf fa H0 X (⟨nm, x, kp⟩ :: xs) (e :: es) := fun r S ds S' h => by
  rw [evEs_cons n] at h
  obtain ⟨⟨d1, S1⟩, e1, h⟩ := Option.bind_eq_some_iff.mp h
  obtain ⟨⟨d2, S2⟩, e2, h⟩ := Option.map_eq_some_iff.mp h
  cases h
  exact ⟨fun pos pins s σ H Q I ⟨G, B, R, RS, q⟩ => (pk_cons (he r S _ _ e1) (hes r S1 _ _ e2)).run pos pins s σ H Q I ⟨G, B, R, RS, fun v H1 G1 B1 st rs dt => ⟨G1, B1, R.step st, rs, fun vs H2 G2 B2 st2 rs2 ds => q (v :: vs) H2 G2 B2 (st.trans st2) rs2 ⟨v, vs, rfl, st2.dat dt, ds⟩⟩⟩⟩
theorem kw_names {env : Env} {pos : Pos} : ∀ {xs : List Keyword} {ks : List Str}, xs.map (·.arg) = ks.map some →
    (backToKw pos (keywordEach xs env)).filterMap (·.1) = ks ∧ (backToKw pos (keywordEach xs env)).all (·.1.isSome) = true ∧ (backToKw pos (keywordEach xs env)).any (·.1.isNone) = false
  | [], ks, h => by
    cases ks with
    | nil => exact ⟨rfl, rfl, rfl⟩
    | cons _ _ => simp at h
  | ⟨a, e, p⟩ :: xs, ks, h => by
    cases ks with
    | nil => simp at h
    | cons k ks =>
      simp only [List.map_cons, List.cons.injEq] at h
      obtain ⟨h1, h2⟩ := h
      subst h1
      obtain ⟨i1, i2, i3⟩ := kw_names (env := env) (pos := pos) h2
      refine ⟨?_, ?_, ?_⟩
      · show List.filterMap (·.1) ((some k, _) :: backToKw pos (keywordEach xs env)) = _
        rw [List.filterMap_cons]
        show k :: List.filterMap (fun x => x.fst) (backToKw pos (keywordEach xs env)) = _
        rw [i1]
      · show ((some k).isSome && (backToKw pos (keywordEach xs env)).all (·.1.isSome)) = true
        rw [i2]; rfl
      · show ((some k).isNone || (backToKw pos (keywordEach xs env)).any (·.1.isNone)) = false
        rw [i3]; rfl

theorem pick_dats {K : PySem.W.Frag} {G : Hp} {B : List Addr} {vs : List V} {ds : List D} (h : Dats K fa G B vs ds) : ∀ {perm : List Nat} {es : List D}, pick perm ds = some es → ∃ ws, pick perm vs = some ws ∧ Dats K fa G B ws es
  | [], _, e => by cases e; exact ⟨[], rfl, rfl⟩
  | k :: ks, _, e => by
    obtain ⟨d, e1, e2⟩ := Option.bind_eq_some_iff.mp e
    obtain ⟨rd, e3, rfl⟩ := Option.map_eq_some_iff.mp e2
    obtain ⟨v, f1, q1⟩ := Dats.get h e1
    obtain ⟨ws, f2, q2⟩ := pick_dats h e3
    exact ⟨v :: ws, by unfold pick; rw [f1, f2]; rfl, v, ws, rfl, q1, q2⟩
theorem pick_vals {vs : List V} {us : List Value} (h : Vals vs us) : ∀ {perm : List Nat} {ws : List V}, pick perm vs = some ws → ∃ zs, pick perm us = some zs ∧ Vals ws zs
  | [], _, e => by cases e; exact ⟨[], rfl, .nil⟩
  | k :: ks, _, e => by
    obtain ⟨d, e1, e2⟩ := Option.bind_eq_some_iff.mp e
    obtain ⟨rd, e3, rfl⟩ := Option.map_eq_some_iff.mp e2
    obtain ⟨v, f1, q1⟩ := h.get e1
    obtain ⟨ws, f2, q2⟩ := pick_vals h e3
    exact ⟨v :: ws, by unfold pick; rw [f1, f2]; rfl, .cons q1 q2⟩

theorem run_callk (W : Wd P cf fa X N sc) {q : Nat} {w : Kwf} (hw : P.kws[q]? = some w) {g : Fn} (hj : P.fns[w.f]? = some g) {pins : List (Addr × Obj)} {σ : Slots} {H G : Hp} {B : List Addr} {s : Shared} {Q : VK} {us ws : List Value} {vs xs : List V} {ds es fs : List D} {S S' : Sto} {d : D}
    (I : Inv X pins σ H s) (r : Vals vs us) (r2 : Vals xs ws) (RS : RelH X.K fa S H G B) (dt : Dats X.K fa G B vs ds) (dt2 : Dats X.K fa G B xs es) (pk : pick w.perm (ds ++ es) = some fs) (e : cf w.f fs S = some (d, S')) (hl : fs.length = g.np)
    (n1 : us.length = w.n) (n2 : ws.length = w.ks.length)
    (k : ∀ v H' G' B', Stp H G B H' G' B' → RelH X.K fa S' H' G' B' → Dat X.K fa G' B' v d → Q v H') : wpAny (model X.prog X.w) X.A (call (.ref (fa w.f)) us (w.ks.zip ws)) (EP X pins σ Q) X.xe s := by
  obtain ⟨lv, hr, hf⟩ := W.run
  obtain ⟨fd, ⟨_, hb⟩, F⟩ := hf w.f g hj
  obtain ⟨ys, p1, dy⟩ := pick_dats (dt.app dt2) pk
  obtain ⟨zs, p2, vz⟩ := pick_vals (r.append r2) p1
  have sp : spOf X.K fa g.np (cf w.f) ys H Q := sp_go (by rw [Dats.length _ _ dy, hl]) RS dy e k
  refine wpAny_call (codeAny_mono (runG F hr W.gd (hb q w hw rfl s us ws zs n1 n2 p2) I vz sp) fun res s' hq => ?_)
  cases res with
  | error e => exact hq
  | ok fl =>
    cases fl with
    | ret u => exact hq
    | next => exact False.elim hq
    | brk => exact False.elim hq
    | cont => exact False.elim hq

theorem s_callk0 (W : Wd P cf fa X N sc) (ar : Arity P cf) {q : Nat} {w : Kwf} (hw : P.kws[q]? = some w) {g : Fn} (hj : P.fns[w.f]? = some g) {ks : List E} {kws : List Keyword} {p pos : Pos} (hg : Gl X g.name) (hd : (g.name == ("__debug__" : Str)) = false) (hk : kws.map (·.arg) = w.ks.map some)
    (ha : SK P cf fa H0 X kws ks) : SE P cf fa H0 X (.Call (.Name g.name p) [] kws pos) (.callk q [] ks) := by
  intro r S d S' h
  simp only [evE, evEs, hw, Option.bind_some, List.nil_append] at h
  obtain ⟨⟨es, S1⟩, e1, h⟩ := Option.bind_eq_some_iff.mp h
  by_cases c : ([] : List D).length = w.n ∧ es.length = w.ks.length
  case neg => rw [if_neg c] at h; cases h
  rw [if_pos c] at h
  obtain ⟨fs, e2, h⟩ := Option.bind_eq_some_iff.mp h
  obtain ⟨k1, k2, k3⟩ := kw_names (env := X.env) (pos := pos) hk
  refine ⟨fun pins s σ H Q I ⟨G, B, R, RS, k⟩ => ?_⟩
  refine wpAny_Call_Name_kw (ld_glob I hg (W.fnv w.f g hj).1 ?_ hd)
  refine PySem.W.callWith_KW0 (h₀ := X.base) I.ok.mod.kin (W.fnv w.f g hj).2 k2 (thn ((ha r S _ _ e1).run pos pins s σ H (fun vs H1 => ∃ G1 B1, Stp H G B H1 G1 B1 ∧ RelH X.K fa S1 H1 G1 B1 ∧ Dats X.K fa G1 B1 vs es) I ⟨G, B, R, RS, fun vs H1 G1 B1 st rs dt => ⟨G1, B1, st, rs, dt⟩⟩) fun us s1 ⟨vs, H1, I1, rv, G1, B1, st, rs, dt⟩ => ⟨I1.kIn, ?_⟩) (by rw [k3]; rfl)
  rw [k1]
  have ln : us.length = w.ks.length := by
    have a2 := Dats.length _ _ dt
    have a3 := rv.length
    have a4 := c.2
    omega
  exact run_callk W hw hj (us := []) (vs := []) (ds := []) I1 .nil rv rs (show Dats X.K fa G1 B1 [] [] from rfl) dt e2 h (ar w.f g fs S1 _ hj h) c.1 ln fun v H' G' B' st2 rs2 dv => k v H' G' B' (st.trans st2) rs2 dv
theorem s_callk (W : Wd P cf fa X N sc) (ar : Arity P cf) {q : Nat} {w : Kwf} (hw : P.kws[q]? = some w) {g : Fn} (hj : P.fns[w.f]? = some g) {es ks : List E} {x : Expr} {xs : List Expr} {kws : List Keyword} {p pos : Pos} (hg : Gl X g.name) (hd : (g.name == ("__debug__" : Str)) = false)
    (hk : kws.map (·.arg) = w.ks.map some) (hx : noStar x = true) (hxs : xs.all noStar = true) (hp : SA P cf fa H0 X (x :: xs) es)
    (ha : SK P cf fa H0 X kws ks) : SE P cf fa H0 X (.Call (.Name g.name p) (x :: xs) kws pos) (.callk q es ks) := by
  intro r S d S' h
  simp only [evE, hw, Option.bind_some] at h
  obtain ⟨⟨ps, S0⟩, e0, h⟩ := Option.bind_eq_some_iff.mp h
  obtain ⟨⟨fs, S1⟩, e1, h⟩ := Option.bind_eq_some_iff.mp h
  by_cases c : ps.length = w.n ∧ fs.length = w.ks.length
  case neg => rw [if_neg c] at h; cases h
  rw [if_pos c] at h
  obtain ⟨gs, e2, h⟩ := Option.bind_eq_some_iff.mp h
  obtain ⟨k1, k2, k3⟩ := kw_names (env := X.env) (pos := pos) hk
  refine ⟨fun pins s σ H Q I ⟨G, B, R, RS, k⟩ => ?_⟩
  refine wpAny_Call_Name_kw (ld_glob I hg (W.fnv w.f g hj).1 ?_ hd)
  refine PySem.W.callWith_KW (h₀ := X.base) I.ok.mod.kin (W.fnv w.f g hj).2 k2 (thn ((hp r S _ _ e0).run pos pins s σ H (fun vs H1 => ∃ G1 B1, Stp H G B H1 G1 B1 ∧ RelH X.K fa S0 H1 G1 B1 ∧ Dats X.K fa G1 B1 vs ps) I ⟨G, B, R, RS, fun vs H1 G1 B1 st rs dt => ⟨G1, B1, st, rs, dt⟩⟩)
    fun us s1 ⟨vs, H1, I1, rv, G1, B1, st, rs, dt⟩ => thn ((ha r S0 _ _ e1).run pos pins s1 σ H1 (fun zs H2 => ∃ G2 B2, Stp H1 G1 B1 H2 G2 B2 ∧ RelH X.K fa S1 H2 G2 B2 ∧ Dats X.K fa G2 B2 zs fs) I1 ⟨G1, B1, R.step st, rs, fun zs H2 G2 B2 st2 rs2 dt2 => ⟨G2, B2, st2, rs2, dt2⟩⟩)
    fun ws s2 ⟨zs, H2, I2, rz, G2, B2, st2, rs2, dt2⟩ => ⟨I2.kIn, ?_⟩) (by rw [plain_of (es := x :: xs) (by rw [List.all_cons, hx, hxs]; rfl), k3]; rfl) (star_of hx)
  rw [k1]
  have l1 : us.length = w.n := by
    have a2 := Dats.length _ _ dt
    have a3 := rv.length
    have a4 := c.1
    omega
  have l2 : ws.length = w.ks.length := by
    have a2 := Dats.length _ _ dt2
    have a3 := rz.length
    have a4 := c.2
    omega
  exact run_callk W hw hj I2 rv rz rs2 (st2.dats dt) dt2 e2 h (ar w.f g gs S1 _ hj h) l1 l2 fun v H' G' B' st3 rs3 dv => k v H' G' B' ((st.trans st2).trans st3) rs3 dv

/-! ### built-ins of one argument -/
theorem Rb.wdp {K : PySem.W.Frag} {H G : Hp} {B : List Addr} {v : V} {d : D} {p : PyData} (h : Rb K fa H G B v d) (k : ∀ a o, G a = some o → H a = some o) (e : (wk d).py = some p) : Dp K H v p := by
  cases d with
  | fz xs =>
    obtain ⟨a, vs, rfl, h1, h2⟩ := h.seq k rfl
    obtain ⟨ps, hp, rfl⟩ := Option.map_eq_some_iff.mp (show (pys xs).map PyData.list = some p from e)
    exact .lst h1 (Dats.dp k xs vs ps hp h2)
  | _ => exact h.dp k e
theorem ref1 {a : Addr} {us : List Value} (r : Vals [V.ref a] us) : us = [.ref a] := by
  obtain ⟨u, rfl, h⟩ := vals1 r
  cases h
  rfl
def GoodC (K : PySem.W.Frag) (fa : Nat → Addr) (rd : List V → Hp → VK → Prop) (x d : D) : Prop := ∀ v H G B S Q, RelH K fa S H G B → Rb K fa H G B v x →
  (∀ v H' G' B', Stp H G B H' G' B' → RelH K fa S H' G' B' → Dat K fa G' B' v d → Q v H') → rd [v] H Q
/-- the built-in functions -/
def fnId : Bi → Option (String × String)
  | .abs => some ("abs", "abs")
  | .len => some ("len", "len")
  | .all => some ("all", "all")
  | .any => some ("any", "any")
  | .sum => some ("sum", "sum")
  | .repr => some ("repr", "repr")
  | _ => none
def tyId : Bi → Option (String × String)
  | .tuple => some ("tuple", "tuple")
  | .list => some ("list", "list")
  | .int => some ("int", "int")
  | _ => none
theorem bools_dats {K : PySem.W.Frag} {G : Hp} {B : List Addr} : ∀ {ds : List D} {vs : List V} {bs : List Bool}, Dats K fa G B vs ds → boolsOf ds = some bs → vs = bs.map V.bl
  | [], _, _, h, e => by cases h; cases e; rfl
  | d :: ds, _, _, h, e => by
    obtain ⟨v, r, rfl, h1, h2⟩ := h
    cases d <;> first | cases e | skip
    obtain ⟨bs, e1, rfl⟩ := Option.map_eq_some_iff.mp (show (boolsOf ds).map _ = _ from e)
    cases h1
    rw [bools_dats h2 e1]
    rfl
theorem ints_dats {K : PySem.W.Frag} {G : Hp} {B : List Addr} : ∀ {ds : List D} {vs : List V} {bs : List Int}, Dats K fa G B vs ds → intsOf ds = some bs → vs = bs.map V.int
  | [], _, _, h, e => by cases h; cases e; rfl
  | d :: ds, _, _, h, e => by
    obtain ⟨v, r, rfl, h1, h2⟩ := h
    cases d <;> first | cases e | skip
    obtain ⟨bs, e1, rfl⟩ := Option.map_eq_some_iff.mp (show (intsOf ds).map _ = _ from e)
    cases h1
    rw [ints_dats h2 e1]
    rfl

theorem call_reprD (hg : X.A.guards = some []) (hu : X.A.units + 128 < cLine) : CallR X (.builtin "repr") (fun xs H Q => ∃ v p, xs = [v] ∧ Dp X.K H v p ∧ p.hasDict = false ∧ p.showable = true ∧ p.shown.length ≤ 100000 ∧ p.depth ≤ 40 ∧ Q (.str p.shown) H) := by
  intro pins s σ H xs us Q I r h
  obtain ⟨v, p, rfl, hd, hn, hs, hz, hdp, q⟩ := h
  obtain ⟨u, rfl, ru⟩ := vals1 r
  have hz' : p.shown.length ≤ sizeLine := by rw [sizeLine_eq]; omega
  cases hd with
  | non => cases ru; exact PySem.P.repr_of_none ⟨.str _, H, I.tok _, ⟨_, rfl⟩, q⟩
  | bl b => cases ru; exact PySem.P.repr_of_bool ⟨.str _, H, I.tok _, ⟨_, rfl⟩, q⟩
  | int i =>
    obtain ⟨t, rfl⟩ := ru
    exact PySem.P.repr_of_int (of_decide_eq_true hs) ⟨.str _, H, I.tok _, ⟨_, rfl⟩, q⟩
  | str x =>
    obtain ⟨t, rfl⟩ := ru
    exact PySem.P.repr_of_str ⟨.str _, H, I.tok _, ⟨_, rfl⟩, q⟩ hz'
  | lst h1 h2 =>
    cases ru
    obtain ⟨as, rd⟩ := Dp.reads I _ _ _ (.lst h1 h2) rfl
    exact repr_of_reads' rd hs (PyData.noDict_hsm hn) hg (by omega) (fun _ _ e => e) (fun h' u tk hk => ⟨.str _, H, I.kept hk, ⟨_, rfl⟩, q⟩) hz'
  | tup h1 h2 =>
    cases ru
    obtain ⟨as, rd⟩ := Dp.reads I _ _ _ (.tup h1 h2) rfl
    exact repr_of_reads' rd hs (PyData.noDict_hsm hn) hg (by omega) (fun _ _ e => e) (fun h' u tk hk => ⟨.str _, H, I.kept hk, ⟨_, rfl⟩, q⟩) hz'

mutual
theorem py_noDict : ∀ (d : D) (p : PyData), d.py = some p → p.hasDict = false
  | .non, p, e => by cases e; rfl
  | .bl b, p, e => by cases e; rfl
  | .int i, p, e => by cases e; rfl
  | .str s, p, e => by cases e; rfl
  | .tup ds, p, e => by
    obtain ⟨ps, hp, rfl⟩ := Option.map_eq_some_iff.mp (show (pys ds).map PyData.tuple = some p from e)
    show PyData.hasDictAll ps = false
    exact pys_noDict ds ps hp
  | .lst ds, p, e => by
    obtain ⟨ps, hp, rfl⟩ := Option.map_eq_some_iff.mp (show (pys ds).map PyData.list = some p from e)
    show PyData.hasDictAll ps = false
    exact pys_noDict ds ps hp
  | .fz n, p, e => by cases e
  | .ref n, p, e => by cases e
  | .fn n, p, e => by cases e
theorem pys_noDict : ∀ (ds : List D) (ps : List PyData), pys ds = some ps → PyData.hasDictAll ps = false
  | [], ps, e => by cases e; rfl
  | d :: ds, ps, e => by
    obtain ⟨y, hy, e2⟩ := Option.bind_eq_some_iff.mp (show (d.py.bind fun y => (pys ds).map fun ys => y :: ys) = some ps from e)
    obtain ⟨ys, hys, rfl⟩ := Option.map_eq_some_iff.mp e2
    show (PyData.hasDict y || PyData.hasDictAll ys) = false
    rw [py_noDict d y hy, pys_noDict ds ys hys]
    rfl
end

/-- one argument: a function -/
theorem fn1_ok (W : Wd P cf fa X N sc) {b : Bi} {nm id : String} {x d : D} (hb : fnId b = some (nm, id)) (h : biD b [wk x] = some d) : ∃ rd, CallR X (.builtin id) rd ∧ GoodC X.K fa rd x d := by
  cases b <;> first | cases hb | skip
  · -- abs
    generalize e : wk x = y at h
    cases y <;> first | cases h | skip
    rw [wk_eq e (fun _ z => by cases z)]
    exact ⟨_, call_abs, fun v H G B S Q RS r1 q => ⟨_, by rw [r1.int], q _ H G B .refl RS rfl⟩⟩
  · -- len
    generalize e : wk x = y at h
    cases y <;> first | cases h | skip
    · have h' : (if _ then _ else _) = some d := h
      split at h'
      · rename_i c
        cases h'
        rw [wk_eq e (fun _ z => by cases z)]
        exact ⟨_, call_len_str, fun v H G B S Q RS r1 q => ⟨_, by rw [r1.str], by rw [sizeLine_eq]; omega, q _ H G B .refl RS rfl⟩⟩
      · cases h'
    · rw [wk_eq e (fun _ z => by cases z)]
      refine ⟨_, call_len_seq, fun v H G B S Q RS r1 q => ?_⟩
      obtain ⟨a, vs, rfl, h1, h2, _⟩ := r1.tup RS.sub
      exact ⟨a, vs, rfl, .inr h1, q _ H G B .refl RS (by show V.int _ = V.int _; rw [Dats.length _ _ h2])⟩
    · refine ⟨_, call_len_seq, fun v H G B S Q RS r1 q => ?_⟩
      obtain ⟨a, vs, rfl, h1, h2⟩ := r1.seq RS.sub e
      exact ⟨a, vs, rfl, .inl h1, q _ H G B .refl RS (by show V.int _ = V.int _; rw [Dats.length _ _ h2])⟩
  · -- all
    generalize e : wk x = y at h
    cases y <;> first | cases h | skip
    obtain ⟨bs, e1, rfl⟩ := Option.map_eq_some_iff.mp (show (boolsOf _).map _ = some d from h)
    refine ⟨_, cr_all W.calm, fun v H G B S Q RS r1 q => ?_⟩
    obtain ⟨a, vs, rfl, h1, h2⟩ := r1.seq RS.sub e
    rw [bools_dats h2 e1] at h1
    exact ⟨a, bs, rfl, h1, q _ H G B .refl RS rfl⟩
  · -- any
    generalize e : wk x = y at h
    cases y <;> first | cases h | skip
    obtain ⟨bs, e1, rfl⟩ := Option.map_eq_some_iff.mp (show (boolsOf _).map _ = some d from h)
    refine ⟨_, cr_any W.calm, fun v H G B S Q RS r1 q => ?_⟩
    obtain ⟨a, vs, rfl, h1, h2⟩ := r1.seq RS.sub e
    rw [bools_dats h2 e1] at h1
    exact ⟨a, bs, rfl, h1, q _ H G B .refl RS rfl⟩
  · -- sum
    generalize e : wk x = y at h
    cases y <;> first | cases h | skip
    obtain ⟨bs, e1, rfl⟩ := Option.map_eq_some_iff.mp (show (intsOf _).map _ = some d from h)
    refine ⟨_, cr_sum W.calm, fun v H G B S Q RS r1 q => ?_⟩
    obtain ⟨a, vs, rfl, h1, h2⟩ := r1.seq RS.sub e
    rw [ints_dats h2 e1] at h1
    exact ⟨a, bs, rfl, h1, q _ H G B .refl RS rfl⟩
  · -- repr
    obtain ⟨p, e1, h2⟩ := Option.bind_eq_some_iff.mp (show ((wk x).py.bind _) = some d from h)
    split at h2
    · rename_i c
      cases h2
      obtain ⟨c1, c2⟩ := Bool.and_eq_true_iff.mp c
      obtain ⟨c3, c4⟩ := Bool.and_eq_true_iff.mp c1
      exact ⟨_, call_reprD W.gd W.un, fun v H G B S Q RS r1 q => ⟨v, p, rfl, r1.wdp RS.sub e1, py_noDict _ _ e1, c3, of_decide_eq_true c4, of_decide_eq_true c2, q _ H G B .refl RS rfl⟩⟩
    · cases h2
/-- one argument: a type -/
theorem ty1_ok {b : Bi} {nm T : String} {x d : D} (hb : tyId b = some (nm, T)) (h : biD b [wk x] = some d) (nl : b ≠ .list) : ∃ rd, CallR X (.type T) rd ∧ GoodC X.K fa rd x d := by
  cases b <;> first | cases hb | skip
  · -- tuple
    generalize e : wk x = y at h
    cases y <;> first | cases h | skip
    · rw [wk_eq e (fun _ z => by cases z)]
      refine ⟨_, call_tuple_of, fun v H G B S Q RS r1 q => ?_⟩
      obtain ⟨a, vs, rfl, h1, h2, h3⟩ := r1.tup RS.sub
      exact ⟨a, vs, rfl, .inr ⟨h1, q _ H G B .refl RS ⟨a, vs, rfl, h3, h2⟩⟩⟩
    · refine ⟨_, call_tuple_of, fun v H G B S Q RS r1 q => ?_⟩
      obtain ⟨a, vs, rfl, h1, h2⟩ := r1.seq RS.sub e
      refine ⟨a, vs, rfl, .inl ⟨h1, fun l hl => ?_⟩⟩
      obtain ⟨st2, rs2⟩ := RS.lay (o := .tup vs) hl
      exact q _ _ _ _ st2 rs2 ⟨l, vs, rfl, .inl (.inl upd_same), st2.dats h2⟩
  · exact absurd rfl nl
  · -- int
    generalize e : wk x = y at h
    cases y <;> first | cases h | skip
    · rw [wk_eq e (fun _ z => by cases z)]
      exact ⟨_, call_int1, fun v H G B S Q RS r1 q => .inr ⟨_, by rw [r1.bl], q _ H G B .refl RS rfl⟩⟩
    · rw [wk_eq e (fun _ z => by cases z)]
      exact ⟨_, call_int1, fun v H G B S Q RS r1 q => .inl ⟨_, by rw [r1.int], q _ H G B .refl RS rfl⟩⟩

theorem bi1_ev {b : Bi} {e : E} {r : Rho} {S S' : Sto} {d : D} (n : ∀ y, e ≠ .star y) (h : evE P cf (.bi b [e]) r S = some (d, S')) : ∃ x, evE P cf e r S = some (x, S') ∧ biD b [wk (deB S' x)] = some d := by
  simp only [evE] at h
  rw [evEs_cons n] at h
  simp only [evEs, Option.map_some] at h
  obtain ⟨⟨ds, S1⟩, e1, h⟩ := Option.bind_eq_some_iff.mp h
  obtain ⟨⟨x, S2⟩, e2, e3⟩ := Option.bind_eq_some_iff.mp e1
  cases e3
  obtain ⟨d', e4, h⟩ := Option.map_eq_some_iff.mp h
  cases h
  exact ⟨x, e2, e4⟩

theorem s_fn1 (W : Wd P cf fa X N sc) {b : Bi} {nm id : String} {e : E} {x : Expr} {p pos : Pos} (hb : fnId b = some (nm, id)) (hn : (nm : Str) ∈ biNames) (hg : Gl X (nm : Str)) (hx : noStar x = true) (ne : ∀ y, e ≠ .star y) (he : SB P cf fa H0 X x e) :
    SE P cf fa H0 X (.Call (.Name (nm : Str) p) [x] [] pos) (.bi b [e]) := by
  intro r S d S' h
  obtain ⟨y, e1, e2⟩ := bi1_ev ne h
  obtain ⟨rd, hc, good⟩ := fn1_ok W hb e2
  have hv : bootBuiltins (nm : Str) = some (.builtin id) ∧ (nm : Str) ≠ "__name__" ∧ ((nm : Str) == ("__debug__" : Str)) = false := by
    cases b <;> first | (cases hb; decide +kernel) | cases hb
  exact (pe_callB hc hg (W.bi _ hn) hv.1 (pa_cons (he r S _ _ e1) pa_nil (star_of hx)) hv.2.1 hv.2.2 (star_of hx) rfl).wk fun σ H Q ⟨G, B, R, RS, q⟩ => ⟨G, B, R, RS, fun v H1 G1 B1 own st rs ok =>
    good v H1 G1 B1 S' Q rs (.of ok rs) fun v2 H2 G2 B2 st2 rs2 dt => q v2 H2 G2 B2 (st.trans st2) rs2 dt⟩
theorem s_ty1 (W : Wd P cf fa X N sc) {b : Bi} {nm T : String} {e : E} {x : Expr} {p pos : Pos} (hb : tyId b = some (nm, T)) (nl : b ≠ .list) (hn : (nm : Str) ∈ biNames) (hg : Gl X (nm : Str)) (hx : noStar x = true) (ne : ∀ y, e ≠ .star y) (he : SB P cf fa H0 X x e) :
    SE P cf fa H0 X (.Call (.Name (nm : Str) p) [x] [] pos) (.bi b [e]) := by
  intro r S d S' h
  obtain ⟨y, e1, e2⟩ := bi1_ev ne h
  obtain ⟨rd, hc, good⟩ := ty1_ok (X := X) (fa := fa) hb e2 nl
  have hv : bootBuiltins (nm : Str) = some (.type T) ∧ (nm : Str) ≠ "__name__" ∧ ((nm : Str) == ("__debug__" : Str)) = false := by
    cases b <;> first | (cases hb; decide +kernel) | cases hb
  exact (pe_callTy hc hg (W.bi _ hn) hv.1 (pa_cons (he r S _ _ e1) pa_nil (star_of hx)) hv.2.1 hv.2.2 (star_of hx) rfl).wk fun σ H Q ⟨G, B, R, RS, q⟩ => ⟨G, B, R, RS, fun v H1 G1 B1 own st rs ok =>
    good v H1 G1 B1 S' Q rs (.of ok rs) fun v2 H2 G2 B2 st2 rs2 dt => q v2 H2 G2 B2 (st.trans st2) rs2 dt⟩
/-- list(x): a new list -/
theorem f_list (W : Wd P cf fa X N sc) {e : E} {x : Expr} {p pos : Pos} (hg : Gl X ("list" : Str)) (hx : noStar x = true) (ne : ∀ y, e ≠ .star y) (he : SB P cf fa H0 X x e) : SF P cf fa H0 X (.Call (.Name "list" p) [x] [] pos) (.bi .list [e]) := by
  intro r S d S' h
  obtain ⟨y, e1, e2⟩ := bi1_ev ne h
  have hv : bootBuiltins ("list" : Str) = some (.type "list") := by decide +kernel
  have key : ∃ ds, d = .lst ds ∧ ∀ v H G B, RelH X.K fa S' H G B → Rb X.K fa H G B v (deB S' y) → ∃ a vs, v = .ref a ∧ (SqL X.K H a vs ∨ SqT X.K H a vs) ∧ Dats X.K fa G B vs ds := by
    generalize hw : wk (deB S' y) = z at e2
    cases z <;> first | cases e2 | skip
    · refine ⟨_, rfl, fun v H G B RS rb => ?_⟩
      have hw' := wk_eq hw (fun _ z => by cases z)
      rw [hw'] at rb
      obtain ⟨a, vs, rfl, h1, h2, _⟩ := rb.tup RS.sub
      exact ⟨a, vs, rfl, .inr h1, h2⟩
    · refine ⟨_, rfl, fun v H G B RS rb => ?_⟩
      obtain ⟨a, vs, rfl, h1, h2⟩ := rb.seq RS.sub hw
      exact ⟨a, vs, rfl, .inl h1, h2⟩
  obtain ⟨ds, rfl, key⟩ := key
  refine ⟨ds, rfl, (pe_callTy call_list_of hg (W.bi _ (by decide +kernel)) hv (pa_cons (he r S _ _ e1) pa_nil (star_of hx)) (by decide) (by decide) (star_of hx) rfl).wk fun σ H Q ⟨G, B, R, RS, q⟩ => ⟨G, B, R, RS, fun v H1 G1 B1 own st rs ok => ?_⟩⟩
  obtain ⟨a, vs, rfl, h1, h2⟩ := key v H1 G1 B1 rs (.of ok rs)
  exact ⟨a, vs, rfl, h1, fun l hl => q l vs H1 G1 B1 hl st rs h2⟩

theorem bi2_ev {b : Bi} {e1 e2 : E} {r : Rho} {S S' : Sto} {d : D} (n1 : ∀ y, e1 ≠ .star y) (n2 : ∀ y, e2 ≠ .star y) (h : evE P cf (.bi b [e1, e2]) r S = some (d, S')) : ∃ x y S1, evE P cf e1 r S = some (x, S1) ∧ evE P cf e2 r S1 = some (y, S') ∧ biD b [wk (deB S' x), wk (deB S' y)] = some d := by
  simp only [evE] at h
  rw [evEs_cons n1] at h
  obtain ⟨⟨ds, S1⟩, f1, h⟩ := Option.bind_eq_some_iff.mp h
  obtain ⟨⟨x, S2⟩, f2, f3⟩ := Option.bind_eq_some_iff.mp f1
  rw [evEs_cons n2] at f3
  simp only [evEs, Option.map_some] at f3
  obtain ⟨⟨ys, S3⟩, f4, f5⟩ := Option.map_eq_some_iff.mp f3
  obtain ⟨⟨y, S4⟩, f6, f7⟩ := Option.bind_eq_some_iff.mp f4
  cases f7
  cases f5
  obtain ⟨d', f8, h⟩ := Option.map_eq_some_iff.mp h
  cases h
  exact ⟨x, y, S2, f2, f6, f8⟩
theorem s_mm (W : Wd P cf fa X N sc) {b : Bi} {nm : String} {e1 e2 : E} {x1 x2 : Expr} {p pos : Pos} (hb : (b = .max2 ∧ nm = "max") ∨ (b = .min2 ∧ nm = "min")) (hg : Gl X (nm : Str)) (h1 : noStar x1 = true) (h2 : noStar x2 = true)
    (n1 : ∀ y, e1 ≠ .star y) (n2 : ∀ y, e2 ≠ .star y) (he1 : SE P cf fa H0 X x1 e1) (he2 : SE P cf fa H0 X x2 e2) : SE P cf fa H0 X (.Call (.Name (nm : Str) p) [x1, x2] [] pos) (.bi b [e1, e2]) := by
  intro r S d S' h
  obtain ⟨x, y, S1, f1, f2, f3⟩ := bi2_ev n1 n2 h
  have arg := pa_cons (he1.b r S _ _ f1) (pa_cons (he2.b r S1 _ _ f2) pa_nil (star_of h2)) (star_of h1)
  have pl : (backTo pos (starEach [x2] X.env)).any (·.1) = false := plain_of (by rw [List.all_cons, h2]; rfl)
  rcases hb with ⟨rfl, rfl⟩ | ⟨rfl, rfl⟩
  · have key : ∃ i j : Int, deB S' x = .int i ∧ deB S' y = .int j ∧ d = .int (if j > i then j else i) := by
      generalize hx : wk (deB S' x) = u at f3
      generalize hy : wk (deB S' y) = v at f3
      cases u <;> first | cases f3 | skip
      cases v <;> first | cases f3 | skip
      exact ⟨_, _, wk_eq hx (fun _ z => by cases z), wk_eq hy (fun _ z => by cases z), rfl⟩
    obtain ⟨i, j, ex, ey, rfl⟩ := key
    refine (pe_callB (call_max2 W.calm) hg (W.bi _ (by decide +kernel)) (by decide +kernel) arg (by decide) (by decide) (star_of h1) pl).wk fun σ H Q ⟨G, B, R, RS, q⟩ => ⟨G, B, R, RS, fun v H1 G1 B1 own st rs ok => ⟨G1, B1, R.step st, rs, fun v2 H2 G2 B2 own2 st2 rs2 ok2 => ?_⟩⟩
    have r1 := Rb.of (ok.step st2) rs2
    have r2 := Rb.of ok2 rs2
    rw [ex] at r1
    rw [ey] at r2
    exact ⟨i, j, by rw [r1.int, r2.int], q _ H2 G2 B2 (st.trans st2) rs2 rfl⟩
  · have key : ∃ i j : Int, deB S' x = .int i ∧ deB S' y = .int j ∧ d = .int (if j < i then j else i) := by
      generalize hx : wk (deB S' x) = u at f3
      generalize hy : wk (deB S' y) = v at f3
      cases u <;> first | cases f3 | skip
      cases v <;> first | cases f3 | skip
      exact ⟨_, _, wk_eq hx (fun _ z => by cases z), wk_eq hy (fun _ z => by cases z), rfl⟩
    obtain ⟨i, j, ex, ey, rfl⟩ := key
    refine (pe_callB (call_min2 W.calm) hg (W.bi _ (by decide +kernel)) (by decide +kernel) arg (by decide) (by decide) (star_of h1) pl).wk fun σ H Q ⟨G, B, R, RS, q⟩ => ⟨G, B, R, RS, fun v H1 G1 B1 own st rs ok => ⟨G1, B1, R.step st, rs, fun v2 H2 G2 B2 own2 st2 rs2 ok2 => ?_⟩⟩
    have r1 := Rb.of (ok.step st2) rs2
    have r2 := Rb.of ok2 rs2
    rw [ex] at r1
    rw [ey] at r2
    exact ⟨i, j, by rw [r1.int, r2.int], q _ H2 G2 B2 (st.trans st2) rs2 rfl⟩
end
end Pv

set_option Elab.async false
set_option linter.all false
set_option maxRecDepth 100000
/-! SndG: isinstance, bit_length, what is walked, comprehensions. -/
namespace Pv
open PySem PySem.Spec PyProof.Rows L2

section
variable {P : Prg} {cf : Nat → List D → Sto → Option (D × Sto)} {fa : Nat → Addr} {H0 : Hp} {X : Cx} {N : List Str} {sc : Scope}

/-! isinstance -/
def isId : Bi → Option String
  | .isInt => some "int"
  | .isBool => some "bool"
  | .isTuple => some "tuple"
  | .isStr => some "str"
  | _ => none
def tyName : D → String
  | .non => "NoneType"
  | .bl _ => "bool"
  | .int _ => "int"
  | .str _ => "str"
  | .tup _ => "tuple"
  | _ => "list"
theorem ty_of {K : PySem.W.Frag} {H G : Hp} {B : List Addr} {S : Sto} {v : V} {x : D} (RS : RelH K fa S H G B) (r : Rb K fa H G B v x) (o : tyOk x = true) : TyX K H v (.type (tyName x)) := by
  cases x <;> first | cases o | skip
  · rw [r.non]; exact .base .non
  · rw [r.bl]; exact .base (.bl _)
  · rw [r.int]; exact .base (.int _)
  · rw [r.str]; exact .base (.str _)
  · obtain ⟨a, vs, rfl, h1, _⟩ := r.tup RS.sub
    rcases h1 with (h1 | ⟨o, h1⟩) | ⟨o, its, n, h1, h2, _⟩
    · exact .base (.tup h1)
    · exact .fTuple h1
    · exact .kTuple h1 h2
  · obtain ⟨a, vs, rfl, h1, _⟩ := r.lst RS.sub
    exact .base (.lst h1)
theorem is_ok {b : Bi} {T : String} {x : D} (hb : isId b = some T) (o : tyOk x = true) : kitB (tyName x) T = some (isD b x) := by
  cases b <;> first | cases hb | skip
  all_goals cases x <;> first | rfl | (cases o; done)
theorem s_is (W : Wd P cf fa X N sc) {b : Bi} {T : String} {e : E} {x : Expr} {p p2 pos : Pos} (hb : isId b = some T) (hg : Gl X ("isinstance" : Str)) (hg2 : Gl X (T : Str)) (hT : (T : Str) ∈ biNames) (hx : noStar x = true) (ne : ∀ y, e ≠ .star y) (he : SB P cf fa H0 X x e) :
    SE P cf fa H0 X (.Call (.Name "isinstance" p) [x, .Name (T : Str) p2] [] pos) (.bi b [e]) := by
  intro r S d S' h
  obtain ⟨y, e1, e2⟩ := bi1_ev ne h
  have hv : bootBuiltins (T : Str) = some (.type T) ∧ (T : Str) ≠ "__name__" ∧ ((T : Str) == ("__debug__" : Str)) = false := by
    cases b <;> first | (cases hb; decide +kernel) | cases hb
  have key : tyOk (wk (deB S' y)) = true ∧ d = .bl (isD b (wk (deB S' y))) := by
    cases b <;> first | cases hb | skip
    all_goals
      have h' : (if tyOk (wk (deB S' y)) = true then some (D.bl (isD _ (wk (deB S' y)))) else none) = some d := e2
      by_cases c : tyOk (wk (deB S' y)) = true
      · rw [if_pos c] at h'
        cases h'
        exact ⟨c, rfl⟩
      · rw [if_neg c] at h'
        cases h'
  obtain ⟨ok0, rfl⟩ := key
  refine (pe_callB call_isi hg (W.bi _ (by decide +kernel)) (by decide +kernel) (pa_cons (he r S _ _ e1) (pa_cons (pe_bltn (v := .ty T) hg2 (W.bi _ hT) hv.1 rfl hv.2.1 hv.2.2) pa_nil) (star_of hx)) (by decide) (by decide) (star_of hx) rfl).wk fun σ H Q ⟨G, B, R, RS, q⟩ => ⟨G, B, R, RS, fun v H1 G1 B1 own st rs ok => ?_⟩
  have rb := Rb.of ok rs
  have tx : TyX X.K H1 v (.type (tyName (wk (deB S' y)))) := by
    generalize ez : deB S' y = z at rb ok0 ⊢
    cases z with
    | fz xs =>
      obtain ⟨a, vs, rfl, h1, _⟩ := rb.seq rs.sub rfl
      rcases h1 with (h1 | ⟨o, h1⟩) | ⟨o, its, n, h1, h2, _⟩
      · exact .base (.lst h1)
      · exact .base (.frz h1)
      · exact .kList h1 h2
    | _ => exact ty_of rs rb ok0
  exact ⟨v, .ty T, _, .type T, _, rfl, .ty T, tx, kit_ty (is_ok hb ok0), q _ H1 G1 B1 st rs rfl⟩

theorem s_bits {a : E} {xa : Expr} {apos pos : Pos} (ha : SE P cf fa H0 X xa a) (hb : plainBase xa = true) (hl : (apos.endLine == pos.line) = true) : SE P cf fa H0 X (.Call (.Attribute xa "bit_length" apos) [] [] pos) (.bits a) := by
  intro r S d S' h
  simp only [evE] at h
  obtain ⟨⟨d1, S1⟩, e1, h⟩ := Option.bind_eq_some_iff.mp h
  cases d1 <;> first | cases h | skip
  exact (pe_bits (ha r S _ _ e1) (base_of hb) hl).wk fun σ H Q ⟨G, B, R, RS, q⟩ => ⟨G, B, R, RS, fun v H' G' B' st rs dt => ⟨_, dt, q _ H' G' B' st rs rfl⟩⟩

/-! ### readings for any answer -/
section
variable (P cf fa H0) (K : PySem.W.Frag)
def AE (e : E) : TE := fun σ H Q => ∃ r S d S', evE P cf e r S = some (d, S') ∧ TD K fa H0 r S d S' σ H Q
def AT (e : E) : TT := fun σ H Q => ∃ r S b S', evE P cf e r S = some (.bl b, S') ∧ TBo K fa H0 r S b S' σ H Q
end
theorem SE.a {x : Expr} {e : E} (h : SE P cf fa H0 X x e) : PE X x (AE P cf fa H0 X.K e) := ⟨fun pins s σ H Q I ⟨r, S, d, S', hv, q⟩ => (h r S d S' hv).run pins s σ H Q I q⟩
theorem ST.a {x : Expr} {e : E} (h : ST P cf fa H0 X x e) : PT X x (AT P cf fa H0 X.K e) := ⟨fun pins s σ H Q I ⟨r, S, d, S', hv, q⟩ => (h r S d S' hv).run pins s σ H Q I q⟩

/-! ### targets -/
/-- several names take a tuple's or a list's items -/
def gTL (K : PySem.W.Frag) (n : Nat) (t : TGs) : TG := fun v σ H Q => gTup K n t v σ H Q ∨ gLst K n t v σ H Q
theorem pg_tl {es : List Expr} {k : Nat} {t : TGs} {n : Nat} {pos : Pos} (hc : X.calm = true) (h : PGs X es t) (hn : (assignEach es X.env).length = n) (hst : (assignEach es X.env).findIdx? (·.1) = none) : PG X (.Tuple es k pos) (gTL X.K n t) :=
  ⟨fun pins s σ H v u Q I r hw => hw.elim (fun z => (pg_tup hc h hn hst).run pins s σ H v u Q I r z) fun z => (pg_lst hc h hn hst).run pins s σ H v u Q I r z⟩
mutual
def gTg (K : PySem.W.Frag) : Tg → TG
  | .nm i => gName i
  | .tp ts => gTL K ts.length (gTgs K ts)
def gTgs (K : PySem.W.Frag) : List Tg → TGs
  | [] => gNil
  | t :: ts => gCons (gTg K t) (gTgs K ts)
end
theorem wipe_get {σ : Slots} : ∀ {vs : List Nat} {i : Nat}, (wipe σ vs)[i]? = if i ∈ vs then (if i < σ.length then some none else none) else σ[i]?
  | [], i => by simp [wipe]
  | v :: vs, i => by
    unfold wipe
    by_cases h : v = i
    · subst h
      rw [if_pos List.mem_cons_self]
      by_cases hl : v < σ.length
      · rw [List.getElem?_set_self (by rw [wipe_length]; exact hl), if_pos hl]
      · rw [if_neg hl]
        apply List.getElem?_eq_none
        rw [List.length_set, wipe_length]
        omega
    · rw [List.getElem?_set_ne h, wipe_get (vs := vs)]
      by_cases hm : i ∈ vs
      · rw [if_pos hm, if_pos (List.mem_cons_of_mem _ hm)]
      · rw [if_neg hm, if_neg (fun z => (List.mem_cons.mp z).elim (fun e => h e.symm) hm)]
theorem wipe_set {σ : Slots} {vs : List Nat} {i : Nat} {x : Option V} (h : i ∈ vs) : wipe (σ.set i x) vs = wipe σ vs := by
  apply List.ext_getElem?
  intro j
  rw [wipe_get, wipe_get, List.length_set]
  by_cases hm : j ∈ vs
  · rw [if_pos hm, if_pos hm]
  · rw [if_neg hm, if_neg hm, List.getElem?_set_ne (fun e => hm (by rw [← e]; exact h))]
theorem wipe_wipe {σ : Slots} {vs : List Nat} : wipe (wipe σ vs) vs = wipe σ vs := by
  apply List.ext_getElem?
  intro j
  rw [wipe_get, wipe_get, wipe_length]
  by_cases hm : j ∈ vs
  · rw [if_pos hm, if_pos hm]
  · rw [if_neg hm, if_neg hm]
theorem wipeR_length (r : Rho) : ∀ vs : List Nat, (wipeR r vs).length = r.length
  | [] => rfl
  | v :: vs => by unfold wipeR; rw [List.length_set, wipeR_length r vs]
theorem wipeR_some {r : Rho} {i : Nat} {x : Bool × D} : ∀ {vs : List Nat}, (wipeR r vs)[i]? = some (some x) → r[i]? = some (some x) ∧ i ∉ vs
  | [], h => ⟨h, by simp⟩
  | v :: vs, h => by
    unfold wipeR at h
    by_cases hi : v = i
    · subst hi
      by_cases hv : v < (wipeR r vs).length
      · rw [List.getElem?_set_self hv] at h; cases h
      · rw [List.getElem?_eq_none (by simpa using hv)] at h; cases h
    · rw [List.getElem?_set_ne hi] at h
      obtain ⟨h1, h2⟩ := wipeR_some h
      exact ⟨h1, fun z => (List.mem_cons.mp z).elim (fun e => hi e.symm) h2⟩
theorem RelR.wipe {K : PySem.W.Frag} {r : Rho} {σ : Slots} {H G : Hp} {B : List Addr} (R : RelR K fa H0 r σ H G B) (vs : List Nat) : RelR K fa H0 (wipeR r vs) (L2.wipe σ vs) H G B where
  len := by rw [wipeR_length, wipe_length]; exact R.len
  at_ := fun i own d e => by
    obtain ⟨e1, e2⟩ := wipeR_some e
    obtain ⟨v, f1, ok⟩ := R.at_ i own d e1
    exact ⟨v, by rw [wipe_get, if_neg e2]; exact f1, ok⟩
  dist := fun i j d e h1 h2 hn => by
    obtain ⟨a1, a2⟩ := wipeR_some h1
    obtain ⟨b1, b2⟩ := wipeR_some h2
    rw [wipe_get, wipe_get, if_neg a2, if_neg b2]
    exact R.dist i j d e a1 b1 hn
theorem RelR.setv {K : PySem.W.Frag} {r : Rho} {σ : Slots} {H G : Hp} {B : List Addr} {i : Nat} {v : V} {d : D} (R : RelR K fa H0 r σ H G B) (h : Dat K fa G B v d) : RelR K fa H0 (r.set i (some (false, d))) (σ.set i (some v)) H G B where
  len := by rw [List.length_set, List.length_set]; exact R.len
  at_ := fun j own e hj => by
    by_cases hi : i = j
    · subst hi
      have hl : i < r.length := by
        have := (List.getElem?_eq_some_iff.mp hj).1
        simpa using this
      rw [List.getElem?_set_self hl] at hj
      cases hj
      exact ⟨v, List.getElem?_set_self (by rw [← R.len]; exact hl), h⟩
    · rw [List.getElem?_set_ne hi] at hj ⊢
      exact R.at_ j own e hj
  dist := fun j l d' e' h1 h2 hn => by
    have nj : i ≠ j := fun z => by
      subst z
      have hl : i < r.length := by
        have := (List.getElem?_eq_some_iff.mp h1).1
        simpa using this
      rw [List.getElem?_set_self hl] at h1
      cases h1
    have nl : i ≠ l := fun z => by
      subst z
      have hl : i < r.length := by
        have := (List.getElem?_eq_some_iff.mp h2).1
        simpa using this
      rw [List.getElem?_set_self hl] at h2
      cases h2
    rw [List.getElem?_set_ne nj, List.getElem?_set_ne nl]
    rw [List.getElem?_set_ne nj] at h1
    rw [List.getElem?_set_ne nl] at h2
    exact R.dist j l d' e' h1 h2 hn

mutual
theorem asg_ok {K : PySem.W.Frag} {H G : Hp} {B : List Addr} (k : ∀ a o, G a = some o → H a = some o) : ∀ (tg : Tg) (d : D) (r r1 : Rho) (v : V) (σ : Slots) (Q : Slots → Hp → Prop), asg tg d r = some r1 → RelR K fa H0 r σ H G B → Dat K fa G B v d →
    (∀ σ', RelR K fa H0 r1 σ' H G B → (∀ vs : List Nat, (∀ i ∈ tg.slots, i ∈ vs) → wipe σ' vs = wipe σ vs) → Q σ' H) → gTg K tg v σ H Q
  | .nm i, d, r, r1, v, σ, Q, e, R, dt, q => by
    have e' : (if i < r.length then some (r.set i (some (false, d))) else none) = some r1 := by simpa only [asg] using e
    split at e'
    · cases e'
      show gName i v σ H Q
      exact q _ (R.setv dt) fun vs hv => wipe_set (hv i (by simp [Tg.slots]))
    · cases e'
  | .tp ts, d, r, r1, v, σ, Q, e, R, dt, q => by
    cases d with
    | tup ds =>
      simp only [asg] at e
      obtain ⟨a, vs, rfl, h1, h2⟩ := dt
      have ln := asgs_len ts ds r r1 e
      exact .inl ⟨a, vs, rfl, SqT.up k h1, by rw [Dats.length _ _ h2, ln], asgs_ok k ts ds r r1 vs σ Q e R h2 q⟩
    | lst ds =>
      simp only [asg] at e
      obtain ⟨a, vs, rfl, h1, h2⟩ := dt
      have ln := asgs_len ts ds r r1 e
      exact .inr ⟨a, vs, rfl, .of (k _ _ h1), by rw [Dats.length _ _ h2, ln], asgs_ok k ts ds r r1 vs σ Q e R h2 q⟩
    | _ => simp only [asg] at e; cases e
theorem asgs_len : ∀ (ts : List Tg) (ds : List D) (r r1 : Rho), asgs ts ds r = some r1 → ds.length = ts.length
  | [], [], _, _, _ => rfl
  | [], _ :: _, _, _, e => by simp only [asgs] at e; cases e
  | _ :: _, [], _, _, e => by simp only [asgs] at e; cases e
  | t :: ts, d :: ds, r, r1, e => by
    simp only [asgs] at e
    obtain ⟨r2, _, e2⟩ := Option.bind_eq_some_iff.mp e
    rw [List.length_cons, List.length_cons, asgs_len ts ds r2 r1 e2]
theorem asgs_ok {K : PySem.W.Frag} {H G : Hp} {B : List Addr} (k : ∀ a o, G a = some o → H a = some o) : ∀ (ts : List Tg) (ds : List D) (r r1 : Rho) (vs : List V) (σ : Slots) (Q : Slots → Hp → Prop), asgs ts ds r = some r1 → RelR K fa H0 r σ H G B → Dats K fa G B vs ds →
    (∀ σ', RelR K fa H0 r1 σ' H G B → (∀ vs : List Nat, (∀ i ∈ slotss ts, i ∈ vs) → wipe σ' vs = wipe σ vs) → Q σ' H) → gTgs K ts vs σ H Q
  | [], [], r, r1, vs, σ, Q, e, R, dt, q => by
    simp only [asgs] at e
    cases e
    cases dt
    exact ⟨rfl, q σ R fun _ _ => rfl⟩
  | [], _ :: _, _, _, _, _, _, e, _, _, _ => by simp only [asgs] at e; cases e
  | _ :: _, [], _, _, _, _, _, e, _, _, _ => by simp only [asgs] at e; cases e
  | t :: ts, d :: ds, r, r1, vs, σ, Q, e, R, dt, q => by
    simp only [asgs] at e
    obtain ⟨r2, e1, e2⟩ := Option.bind_eq_some_iff.mp e
    obtain ⟨v, ws, rfl, h1, h2⟩ := dt
    refine ⟨v, ws, rfl, asg_ok k t d r r2 v σ _ e1 R h1 fun σ1 R1 w1 => asgs_ok k ts ds r2 r1 ws σ1 Q e2 R1 h2 fun σ2 R2 w2 => q σ2 R2 fun us hu => ?_⟩
    rw [w2 us fun i hi => hu i (by simp only [slotss]; exact List.mem_append_right _ hi), w1 us fun i hi => hu i (by simp only [slotss]; exact List.mem_append_left _ hi)]
end
end
end Pv

set_option Elab.async false
set_option linter.all false
set_option maxRecDepth 100000
/-! SndH: what is walked; comprehensions. -/
namespace Pv
open PySem PySem.Spec PyProof.Rows L2

/-- an iterator that yields the values xs, one by one -/
def Yld (K : PySem.W.Frag) (fa : Nat → Addr) (J : It) (G0 : Hp) (B0 : List Addr) (xs : List D) : Prop := ∀ H1 G1 B1, (∀ a o, G0 a = some o → G1 a = some o) → (∃ C, B1 = B0 ++ C) → (∀ a o, G1 a = some o → H1 a = some o) → ∀ i : Nat,
  (∀ d, xs[i]? = some d → J.go i H1 ∧ ∀ x H2, J.yld i H1 x H2 → ∃ G2, Dat K fa G2 B1 x d ∧ (∀ S1, RelH K fa S1 H1 G1 B1 → Stp H1 G1 B1 H2 G2 B1 ∧ RelH K fa S1 H2 G2 B1)) ∧ (xs.length ≤ i → J.stop i H1)

section
variable {K : PySem.W.Frag} {fa : Nat → Addr} {G H : Hp} {B : List Addr} {a b : Addr} {vs ws : List V} {xs ys : List D}
theorem y_list (h : SqL K G a vs) (d : Dats K fa G B vs xs) : Yld K fa (Itl K a) G B xs := by
  intro H1 G1 B1 k e k1 i
  have h1 : SqL K H1 a vs := SqL.up k1 (SqL.up k h)
  refine ⟨fun x hx => ?_, fun hl => ⟨vs, h1, by rw [Dats.length _ _ d]; exact hl⟩⟩
  obtain ⟨v, hv, dv⟩ := Dats.get d hx
  refine ⟨⟨vs, v, h1, hv⟩, fun y H2 hy => ?_⟩
  obtain ⟨rfl, hy⟩ := hy
  have e2 := hy vs h1
  rw [hv] at e2
  cases e2
  exact ⟨G1, Dat.up k e x _ dv, fun S1 RS => ⟨.refl, RS⟩⟩
theorem y_tup (h : SqT K G a vs) (d : Dats K fa G B vs xs) : Yld K fa (Itt K a) G B xs := by
  intro H1 G1 B1 k e k1 i
  have h1 : SqT K H1 a vs := SqT.up k1 (SqT.up k h)
  refine ⟨fun x hx => ?_, fun hl => ⟨vs, h1, by rw [Dats.length _ _ d]; exact hl⟩⟩
  obtain ⟨v, hv, dv⟩ := Dats.get d hx
  refine ⟨⟨vs, v, h1, hv⟩, fun y H2 hy => ?_⟩
  obtain ⟨rfl, hy⟩ := hy
  have e2 := hy vs h1
  rw [hv] at e2
  cases e2
  exact ⟨G1, Dat.up k e x _ dv, fun S1 RS => ⟨.refl, RS⟩⟩
theorem rangeL_get {lo : Int} {n i : Nat} {d : D} (h : (rangeL lo n)[i]? = some d) : i < n ∧ d = .int (lo + i) := by
  unfold rangeL at h
  rw [List.getElem?_map] at h
  by_cases c : i < n
  · rw [List.getElem?_range c] at h
    cases h
    exact ⟨c, rfl⟩
  · rw [List.getElem?_eq_none (by simpa using c)] at h
    cases h
theorem y_rng {lo : Int} {n : Nat} : Yld K fa (Itr lo n) G B (rangeL lo n) := by
  intro H1 G1 B1 k e k1 i
  refine ⟨fun x hx => ?_, fun hl => (show n ≤ i by simpa [rangeL] using hl)⟩
  obtain ⟨hi, rfl⟩ := rangeL_get hx
  refine ⟨hi, fun y H2 hy => ?_⟩
  obtain ⟨rfl, rfl⟩ := hy
  exact ⟨G1, rfl, fun S1 RS => ⟨.refl, RS⟩⟩
theorem zipL_get : ∀ {xs ys : List D} {i : Nat} {d : D}, (zipL xs ys)[i]? = some d → ∃ x y, xs[i]? = some x ∧ ys[i]? = some y ∧ d = .tup [x, y]
  | [], ys, i, d, h => by cases ys <;> simp [zipL] at h
  | x :: xs, [], i, d, h => by simp [zipL] at h
  | x :: xs, y :: ys, 0, d, h => by
    simp [zipL] at h
    exact ⟨x, y, rfl, rfl, h.symm⟩
  | x :: xs, y :: ys, i + 1, d, h => by
    simp [zipL] at h
    obtain ⟨u, v, e1, e2, e3⟩ := zipL_get h
    exact ⟨u, v, by simpa using e1, by simpa using e2, e3⟩
theorem zipL_len : ∀ {xs ys : List D} {i : Nat}, (zipL xs ys).length ≤ i → xs.length ≤ i ∨ ys.length ≤ i
  | [], ys, i, h => .inl (Nat.zero_le _)
  | x :: xs, [], i, h => .inr (Nat.zero_le _)
  | x :: xs, y :: ys, 0, h => by simp [zipL] at h
  | x :: xs, y :: ys, i + 1, h => by
    simp only [zipL, List.length_cons, Nat.add_le_add_iff_right] at h
    rcases zipL_len h with q | q
    · exact .inl (by simpa using q)
    · exact .inr (by simpa using q)
theorem pair_dat {H1 G1 : Hp} {B1 : List Addr} {S1 : Sto} {T : Addr} {u v : V} {x y : D} (hT : H1 T = none) (du : Dat K fa G1 B1 u x) (dv : Dat K fa G1 B1 v y) (nG : G1 T = none) : Dat K fa (upd G1 T (.tup [u, v])) B1 (.ref T) (.tup [x, y]) := by
  have kk : ∀ a o, G1 a = some o → upd G1 T (.tup [u, v]) a = some o := fun a o e => by rw [upd_ne (ne_of_none e nG)]; exact e
  exact ⟨T, [u, v], rfl, .inl (.inl upd_same), u, [v], rfl, Dat.up kk ⟨[], by simp⟩ x u du, v, [], rfl, Dat.up kk ⟨[], by simp⟩ y v dv, rfl⟩
theorem none_up {G1 H1 : Hp} (k : ∀ a o, G1 a = some o → H1 a = some o) {T : Addr} (h : H1 T = none) : G1 T = none := by
  cases q : G1 T with
  | none => rfl
  | some o => rw [k T o q] at h; cases h
theorem y_zip (h : SqL K G a vs) (d : Dats K fa G B vs xs) (h' : SqL K G b ws) (d' : Dats K fa G B ws ys) : Yld K fa (Itz K a b) G B (zipL xs ys) := by
  intro H1 G1 B1 k e k1 i
  have h1 : SqL K H1 a vs := SqL.up k1 (SqL.up k h)
  have h2 : SqL K H1 b ws := SqL.up k1 (SqL.up k h')
  refine ⟨fun z hz => ?_, fun hl => ?_⟩
  · obtain ⟨x, y, e1, e2, rfl⟩ := zipL_get hz
    obtain ⟨u, hu, du⟩ := Dats.get d e1
    obtain ⟨v, hv, dv⟩ := Dats.get d' e2
    refine ⟨⟨vs, ws, u, v, h1, h2, hu, hv⟩, fun w H2 hy => ?_⟩
    obtain ⟨T, u', v', rfl, hT, rfl, q1, q2⟩ := hy
    have f1 := q1 vs h1
    have f2 := q2 ws h2
    rw [hu] at f1; cases f1
    rw [hv] at f2; cases f2
    exact ⟨_, pair_dat (S1 := []) hT (Dat.up k e x _ du) (Dat.up k e y _ dv) (none_up k1 hT), fun S1 RS => RS.lay hT⟩
  · refine ⟨vs, ws, h1, h2, ?_⟩
    rw [Dats.length _ _ d, Dats.length _ _ d']
    exact zipL_len hl
theorem y_zipT (h : SqT K G a vs) (d : Dats K fa G B vs xs) (h' : SqT K G b ws) (d' : Dats K fa G B ws ys) : Yld K fa (RZ.ItzT K a b) G B (zipL xs ys) := by
  intro H1 G1 B1 k e k1 i
  have h1 : SqT K H1 a vs := SqT.up k1 (SqT.up k h)
  have h2 : SqT K H1 b ws := SqT.up k1 (SqT.up k h')
  refine ⟨fun z hz => ?_, fun hl => ?_⟩
  · obtain ⟨x, y, e1, e2, rfl⟩ := zipL_get hz
    obtain ⟨u, hu, du⟩ := Dats.get d e1
    obtain ⟨v, hv, dv⟩ := Dats.get d' e2
    refine ⟨⟨vs, ws, u, v, h1, h2, hu, hv⟩, fun w H2 hy => ?_⟩
    obtain ⟨T, u', v', rfl, hT, rfl, q1, q2⟩ := hy
    have f1 := q1 vs h1
    have f2 := q2 ws h2
    rw [hu] at f1; cases f1
    rw [hv] at f2; cases f2
    exact ⟨_, pair_dat (S1 := []) hT (Dat.up k e x _ du) (Dat.up k e y _ dv) (none_up k1 hT), fun S1 RS => RS.lay hT⟩
  · refine ⟨vs, ws, h1, h2, ?_⟩
    rw [Dats.length _ _ d, Dats.length _ _ d']
    exact zipL_len hl
theorem y_zipM (h : SqT K G a vs) (d : Dats K fa G B vs xs) (h' : SqL K G b ws) (d' : Dats K fa G B ws ys) : Yld K fa (Mz.ItzM K a b vs.length ws.length) G B (zipL xs ys) := by
  intro H1 G1 B1 k e k1 i
  have h1 : SqT K H1 a vs := SqT.up k1 (SqT.up k h)
  have h2 : SqL K H1 b ws := SqL.up k1 (SqL.up k h')
  refine ⟨fun z hz => ?_, fun hl => ?_⟩
  · obtain ⟨x, y, e1, e2, rfl⟩ := zipL_get hz
    obtain ⟨u, hu, du⟩ := Dats.get d e1
    obtain ⟨v, hv, dv⟩ := Dats.get d' e2
    refine ⟨⟨vs, ws, u, v, h1, h2, rfl, rfl, hu, hv⟩, fun w H2 hy => ?_⟩
    obtain ⟨T, u', v', rfl, hT, rfl, q1, q2⟩ := hy
    have f1 := q1 vs h1
    have f2 := q2 ws h2
    rw [hu] at f1; cases f1
    rw [hv] at f2; cases f2
    exact ⟨_, pair_dat (S1 := []) hT (Dat.up k e x _ du) (Dat.up k e y _ dv) (none_up k1 hT), fun S1 RS => RS.lay hT⟩
  · refine ⟨vs, ws, h1, h2, rfl, rfl, ?_⟩
    rw [Dats.length _ _ d, Dats.length _ _ d']
    exact zipL_len hl
theorem enuL_get : ∀ {xs : List D} {n i : Nat} {d : D}, (enuL n xs)[i]? = some d → ∃ x, xs[i]? = some x ∧ d = .tup [.int ((n + i : Nat) : Int), x]
  | [], n, i, d, h => by simp [enuL] at h
  | x :: xs, n, 0, d, h => by
    simp [enuL] at h
    exact ⟨x, rfl, by rw [← h]; rfl⟩
  | x :: xs, n, i + 1, d, h => by
    simp [enuL] at h
    obtain ⟨u, e1, e3⟩ := enuL_get h
    refine ⟨u, by simpa using e1, ?_⟩
    rw [e3, show n + 1 + i = n + (i + 1) by omega]
theorem enuL_len : ∀ (xs : List D) (n : Nat), (enuL n xs).length = xs.length
  | [], n => rfl
  | x :: xs, n => by simp [enuL, enuL_len xs]
theorem y_enu (h : SqL K G a vs) (d : Dats K fa G B vs xs) : Yld K fa (Ite K a) G B (enuL 0 xs) := by
  intro H1 G1 B1 k e k1 i
  have h1 : SqL K H1 a vs := SqL.up k1 (SqL.up k h)
  refine ⟨fun z hz => ?_, fun hl => ⟨vs, h1, by rw [enuL_len] at hl; rw [Dats.length _ _ d]; exact hl⟩⟩
  obtain ⟨x, e1, rfl⟩ := enuL_get hz
  obtain ⟨u, hu, du⟩ := Dats.get d e1
  refine ⟨⟨vs, u, h1, hu⟩, fun w H2 hy => ?_⟩
  obtain ⟨T, u', rfl, hT, rfl, q1⟩ := hy
  have f1 := q1 vs h1
  rw [hu] at f1; cases f1
  rw [Nat.zero_add]
  exact ⟨_, pair_dat (S1 := []) hT rfl (Dat.up k e x _ du) (none_up k1 hT), fun S1 RS => RS.lay hT⟩
theorem y_enuT (h : SqT K G a vs) (d : Dats K fa G B vs xs) : Yld K fa (Ez.IteT K a) G B (enuL 0 xs) := by
  intro H1 G1 B1 k e k1 i
  have h1 : SqT K H1 a vs := SqT.up k1 (SqT.up k h)
  refine ⟨fun z hz => ?_, fun hl => ⟨vs, h1, by rw [enuL_len] at hl; rw [Dats.length _ _ d]; exact hl⟩⟩
  obtain ⟨x, e1, rfl⟩ := enuL_get hz
  obtain ⟨u, hu, du⟩ := Dats.get d e1
  refine ⟨⟨vs, u, h1, hu⟩, fun w H2 hy => ?_⟩
  obtain ⟨T, u', rfl, hT, rfl, q1⟩ := hy
  have f1 := q1 vs h1
  rw [hu] at f1; cases f1
  rw [Nat.zero_add]
  exact ⟨_, pair_dat (S1 := []) hT rfl (Dat.up k e x _ du) (none_up k1 hT), fun S1 RS => RS.lay hT⟩
end

section
variable {P : Prg} {cf : Nat → List D → Sto → Option (D × Sto)} {fa : Nat → Addr} {H0 : Hp} {X : Cx} {N : List Str} {sc : Scope}
variable (P cf fa H0) in
def AI (K : PySem.W.Frag) (e : E) : TI := fun σ H R => ∃ r S d S' xs G B, evE P cf e r S = some (d, S') ∧ itemsD (wk d) = some xs ∧ RelR K fa H0 r σ H G B ∧ RelH K fa S H G B ∧
  ∀ J H' G' B', Stp H G B H' G' B' → RelH K fa S' H' G' B' → Yld K fa J G' B' xs → R J H'
theorem PI.wk {tg x : Expr} {w w' : TI} (h : PI X tg x w) (k : ∀ σ H R, w' σ H R → w σ H R) : PI X tg x w' := ⟨fun pins s σ H R I q => h.run pins s σ H R I (k σ H R q)⟩
theorem PI.or2 {tg x : Expr} {w w' : TI} (h : PI X tg x w) (h' : PI X tg x w') : PI X tg x (fun σ H R => w σ H R ∨ w' σ H R) := ⟨fun pins s σ H R I q => q.elim (h.run pins s σ H R I) (h'.run pins s σ H R I)⟩

variable (P cf fa H0 X) in
def SI (tg x : Expr) (e : E) : Prop := PI X tg x (AI P cf fa H0 X.K e)
theorem si_e {tg x : Expr} {e : E} (he : SE P cf fa H0 X x e) : SI P cf fa H0 X tg x e := by
  refine PI.wk (PI.or2 (pi_list he.a) (pi_tup he.a)) fun σ H R ⟨r, S, d, S', xs, G, B, hv, hx, RR, RS, q⟩ => ?_
  unfold itemsD at hx
  split at hx
  · rename_i zs ez
    cases hx
    refine .inl ⟨r, S, d, S', hv, G, B, RR, RS, fun v H' G' B' st rs dt => ?_⟩
    have key : ∃ a vs, v = .ref a ∧ SqL X.K G' a vs ∧ Dats X.K fa G' B' vs xs := by
      cases d with
      | fz ys => cases ez; exact dt
      | lst ys =>
        cases ez
        obtain ⟨a, vs, e1, h1, h2⟩ := dt
        exact ⟨a, vs, e1, .of h1, h2⟩
      | _ => cases ez
    obtain ⟨a, vs, rfl, h1, h2⟩ := key
    exact ⟨a, rfl, ⟨vs, SqL.up rs.sub h1⟩, q _ H' G' B' st rs (y_list h1 h2)⟩
  · rename_i zs ez
    cases hx
    have ez' := wk_eq ez (fun _ z => by cases z)
    subst ez'
    refine .inr ⟨r, S, _, S', hv, G, B, RR, RS, fun v H' G' B' st rs dt => ?_⟩
    obtain ⟨a, vs, rfl, h1, h2⟩ := dt
    exact ⟨a, rfl, ⟨vs, SqT.up rs.sub h1⟩, q _ H' G' B' st rs (y_tup h1 h2)⟩
  · cases hx
theorem sq_of {K : PySem.W.Frag} {G : Hp} {B : List Addr} {v : V} {d : D} {xs : List D} (h : wk d = .lst xs) (dt : Dat K fa G B v d) : ∃ a vs, v = .ref a ∧ SqL K G a vs ∧ Dats K fa G B vs xs := by
  cases d with
  | fz ys => cases h; exact dt
  | lst ys =>
    cases h
    obtain ⟨a, vs, e1, h1, h2⟩ := dt
    exact ⟨a, vs, e1, .of h1, h2⟩
  | _ => cases h

theorem si_zip (W : Wd P cf fa X N sc) {elts : List Expr} {kk : Nat} {tpos : Pos} {x y : Expr} {p pos : Pos} {e1 e2 : E} (hg : Gl X ("zip" : Str)) (hx : noStar x = true) (hy : noStar y = true) (h1 : SE P cf fa H0 X x e1) (h2 : SE P cf fa H0 X y e2) :
    SI P cf fa H0 X (.Tuple elts kk tpos) (.Call (.Name "zip" p) [x, y] [] pos) (.zip e1 e2) := by
  refine PI.wk (PI.or2 (RZ.pi_zipA hg (W.bi _ (by decide +kernel)) (pa_cons h1.a (pa_cons h2.a pa_nil (star_of hy)) (star_of hx)) (star_of hx) (plain_of (by rw [List.all_cons, hy]; rfl)))
    (Mz.pi_zipM hg (W.bi _ (by decide +kernel)) (pa_cons h1.a (pa_cons h2.a pa_nil (star_of hy)) (star_of hx)) (star_of hx) (plain_of (by rw [List.all_cons, hy]; rfl)))) fun σ H R ⟨r, S, d, S', xs, G, B, hv, hi, RR, RS, q⟩ => ?_
  simp only [evE] at hv
  obtain ⟨⟨d1, S1⟩, f1, hv⟩ := Option.bind_eq_some_iff.mp hv
  obtain ⟨⟨d2, S2⟩, f2, hv⟩ := Option.bind_eq_some_iff.mp hv
  split at hv
  · rename_i us ws k1 k2
    refine .inl ⟨r, S, d1, S1, f1, G, B, RR, RS, fun v1 H1 G1 B1 st1 rs1 dt1 => ⟨r, S1, d2, S2, f2, G1, B1, RR.step st1, rs1, fun v2 H2 G2 B2 st2 rs2 dt2 => ?_⟩⟩
    have dt1' := st2.dat dt1
    cases hv
    cases hi
    obtain ⟨a, vs, rfl, s1, t1⟩ := sq_of k1 dt1'
    obtain ⟨b, vs2, rfl, s2, t2⟩ := sq_of k2 dt2
    exact ⟨a, b, vs, vs2, rfl, .inl ⟨SqL.up rs2.sub s1, SqL.up rs2.sub s2, q _ H2 G2 B2 (st1.trans st2) rs2 (y_zip s1 t1 s2 t2)⟩⟩
  · rename_i us ws k1 k2
    refine .inl ⟨r, S, d1, S1, f1, G, B, RR, RS, fun v1 H1 G1 B1 st1 rs1 dt1 => ⟨r, S1, d2, S2, f2, G1, B1, RR.step st1, rs1, fun v2 H2 G2 B2 st2 rs2 dt2 => ?_⟩⟩
    have dt1' := st2.dat dt1
    cases hv
    cases hi
    have k1' := wk_eq k1 (fun _ z => by cases z)
    have k2' := wk_eq k2 (fun _ z => by cases z)
    have k1'' : d1 = .tup us := k1'
    have k2'' : d2 = .tup ws := k2'
    subst k1'' k2''
    obtain ⟨a, vs, rfl, s1, t1⟩ := dt1'
    obtain ⟨b, vs2, rfl, s2, t2⟩ := dt2
    exact ⟨a, b, vs, vs2, rfl, .inr ⟨SqT.up rs2.sub s1, SqT.up rs2.sub s2, q _ H2 G2 B2 (st1.trans st2) rs2 (y_zipT s1 t1 s2 t2)⟩⟩
  · rename_i us ws k1 k2
    refine .inr ⟨r, S, d1, S1, f1, G, B, RR, RS, fun v1 H1 G1 B1 st1 rs1 dt1 => ⟨r, S1, d2, S2, f2, G1, B1, RR.step st1, rs1, fun v2 H2 G2 B2 st2 rs2 dt2 => ?_⟩⟩
    have dt1' := st2.dat dt1
    cases hv
    cases hi
    have k1' := wk_eq k1 (fun _ z => by cases z)
    have k1'' : d1 = .tup us := k1'
    subst k1''
    obtain ⟨a, vs, rfl, s1, t1⟩ := dt1'
    obtain ⟨b, vs2, rfl, s2, t2⟩ := sq_of k2 dt2
    exact ⟨a, b, vs, vs2, rfl, SqT.up rs2.sub s1, SqL.up rs2.sub s2, q _ H2 G2 B2 (st1.trans st2) rs2 (y_zipM s1 t1 s2 t2)⟩
  · cases hv
theorem si_enu (W : Wd P cf fa X N sc) {elts : List Expr} {kk : Nat} {tpos : Pos} {x : Expr} {p pos : Pos} {e1 : E} (hg : Gl X ("enumerate" : Str)) (hx : noStar x = true) (h1 : SE P cf fa H0 X x e1) :
    SI P cf fa H0 X (.Tuple elts kk tpos) (.Call (.Name "enumerate" p) [x] [] pos) (.enu e1) := by
  refine PI.wk (Ez.pi_enumA hg (W.bi _ (by decide +kernel)) (pa_cons h1.a pa_nil (star_of hx)) (star_of hx)) fun σ H R ⟨r, S, d, S', xs, G, B, hv, hi, RR, RS, q⟩ => ?_
  simp only [evE] at hv
  obtain ⟨⟨d1, S1⟩, f1, hv⟩ := Option.bind_eq_some_iff.mp hv
  split at hv
  · rename_i us k1
    cases hv
    cases hi
    refine ⟨r, S, d1, S1, f1, G, B, RR, RS, fun v1 H1 G1 B1 st1 rs1 dt1 => ?_⟩
    obtain ⟨a, vs, rfl, s1, t1⟩ := sq_of k1 dt1
    exact ⟨a, vs, rfl, .inl ⟨SqL.up rs1.sub s1, q _ H1 G1 B1 st1 rs1 (y_enu s1 t1)⟩⟩
  · rename_i us k1
    cases hv
    cases hi
    refine ⟨r, S, d1, S1, f1, G, B, RR, RS, fun v1 H1 G1 B1 st1 rs1 dt1 => ?_⟩
    have k2 : d1 = .tup us := wk_eq k1 (fun _ z => by cases z)
    subst k2
    obtain ⟨a, vs, rfl, s1, t1⟩ := dt1
    exact ⟨a, vs, rfl, .inr ⟨SqT.up rs1.sub s1, q _ H1 G1 B1 st1 rs1 (y_enuT s1 t1)⟩⟩
  · cases hv
theorem rangeOk_of {i j : Int} (h : rangeOk i j = true) : -(2 ^ 62) ≤ i ∧ i < 2 ^ 62 ∧ -(2 ^ 62) ≤ j ∧ j < 2 ^ 62 := by
  unfold rangeOk at h
  simp only [Bool.and_eq_true, decide_eq_true_eq] at h
  exact ⟨h.1.1.1.1, h.1.1.1.2, h.1.1.2, h.1.2⟩
theorem si_rng1 (W : Wd P cf fa X N sc) {tg x : Expr} {p pos : Pos} {e1 : E} (hg : Gl X ("range" : Str)) (hx : noStar x = true) (n1 : ∀ y, e1 ≠ .star y) (h1 : SE P cf fa H0 X x e1) : SI P cf fa H0 X tg (.Call (.Name "range" p) [x] [] pos) (.rng [e1]) := by
  refine PI.wk (pi_range1 hg (W.bi _ (by decide +kernel)) (pa_cons h1.a pa_nil (star_of hx)) (star_of hx)) fun σ H R ⟨r, S, d, S', xs, G, B, hv, hi, RR, RS, q⟩ => ?_
  simp only [evE] at hv
  rw [evEs_cons n1] at hv
  simp only [evEs, Option.map_some] at hv
  obtain ⟨⟨ds, S1⟩, f1, hv⟩ := Option.bind_eq_some_iff.mp hv
  obtain ⟨⟨d1, S2⟩, f2, f3⟩ := Option.bind_eq_some_iff.mp f1
  cases f3
  obtain ⟨ys, f4, hv⟩ := Option.map_eq_some_iff.mp hv
  cases hv
  cases hi
  unfold rngD at f4
  split at f4
  · rename_i j ej
    split at f4
    · rename_i c
      cases f4
      have c' := rangeOk_of c
      refine ⟨r, S, d1, _, f2, G, B, RR, RS, fun v1 H1 G1 B1 st1 rs1 dt1 => ?_⟩
      have ej' : d1 = .int j := by simpa using ej
      subst ej'
      cases dt1
      exact ⟨j, rfl, c'.2.2.1, c'.2.2.2, q _ H1 G1 B1 st1 rs1 y_rng⟩
    · cases f4
  · rename_i i j ej
    simp at ej
  · cases f4
theorem si_rng2 (W : Wd P cf fa X N sc) {tg x y : Expr} {p pos : Pos} {e1 e2 : E} (hg : Gl X ("range" : Str)) (hx : noStar x = true) (hy : noStar y = true) (n1 : ∀ y, e1 ≠ .star y) (n2 : ∀ y, e2 ≠ .star y) (h1 : SE P cf fa H0 X x e1) (h2 : SE P cf fa H0 X y e2) :
    SI P cf fa H0 X tg (.Call (.Name "range" p) [x, y] [] pos) (.rng [e1, e2]) := by
  refine PI.wk (pi_range2 hg (W.bi _ (by decide +kernel)) (pa_cons h1.a (pa_cons h2.a pa_nil (star_of hy)) (star_of hx)) (by rw [star_of hx, star_of hy]; rfl) (star_of hy)) fun σ H R ⟨r, S, d, S', xs, G, B, hv, hi, RR, RS, q⟩ => ?_
  simp only [evE] at hv
  rw [evEs_cons n1] at hv
  obtain ⟨⟨ds, S1⟩, f1, hv⟩ := Option.bind_eq_some_iff.mp hv
  obtain ⟨⟨d1, S2⟩, f2, f3⟩ := Option.bind_eq_some_iff.mp f1
  rw [evEs_cons n2] at f3
  simp only [evEs, Option.map_some] at f3
  obtain ⟨⟨d2s, S3⟩, f5, f6⟩ := Option.map_eq_some_iff.mp f3
  obtain ⟨⟨d2, S4⟩, f7, f8⟩ := Option.bind_eq_some_iff.mp f5
  cases f8
  cases f6
  obtain ⟨ys, f4, hv⟩ := Option.map_eq_some_iff.mp hv
  cases hv
  cases hi
  unfold rngD at f4
  split at f4
  · rename_i j ej
    simp at ej
  · rename_i i j ej
    split at f4
    · rename_i c
      cases f4
      have c' := rangeOk_of c
      have ej' : d1 = .int i ∧ d2 = .int j := by simpa using ej
      obtain ⟨rfl, rfl⟩ := ej'
      refine ⟨r, S, _, S2, f2, G, B, RR, RS, fun v1 H1 G1 B1 st1 rs1 dt1 => ⟨r, S2, _, _, f7, G1, B1, RR.step st1, rs1, fun v2 H2 G2 B2 st2 rs2 dt2 => ?_⟩⟩
      cases dt1
      cases dt2
      exact ⟨i, j, rfl, c', q _ H2 G2 B2 (st1.trans st2) rs2 y_rng⟩
    · cases f4
  · cases f4
end
end Pv

set_option Elab.async false
set_option linter.all false
set_option maxRecDepth 100000
/-! SndI: list comprehensions; bit by bit. -/
namespace Pv
open PySem PySem.Spec PyProof.Rows L2

section
variable {K : PySem.W.Frag} {fa : Nat → Addr} {H G H1 G1 : Hp} {B B1 : List Addr} {S : Sto} {p : Addr}
/-- an owned list is written -/
theorem RelH.wrF (R : RelH K fa S H G B) {o o' : HO} (h : H p = some o) (hg : G p = none) (hb : p ∉ B) : RelH K fa S (upd H p o') G B where
  sub := fun a u e => by rw [upd_ne (fun z => by subst z; rw [hg] at e; cases e)]; exact R.sub a u e
  len := R.len
  nd := R.nd
  at_ := fun n ds e => by
    obtain ⟨a, vs, e1, e2, e3, e4, e5⟩ := R.at_ n ds e
    exact ⟨a, vs, e1, by rw [upd_ne (fun z => hb (by rw [← z]; exact List.mem_of_getElem? e1))]; exact e2, e3, e4, e5⟩
theorem Stp.wrF {o : HO} (s : Stp H G B H1 G1 B1) (h : H p = none) : Stp H G B (upd H1 p o) G1 B1 where
  keep := fun a u e n => by rw [upd_ne (ne_of_none e h)]; exact s.keep a u e n
  liv := fun a e => by
    by_cases z : a = p
    · subst z; rw [upd_same]; simp
    · rw [upd_ne z]; exact s.liv a e
  sub := s.sub
  fr := s.fr
  pre := s.pre
/-- an object is forgotten -/
def les (H : Hp) (p : Addr) : Hp := fun b => if b = p then none else H b
theorem les_upd {o : HO} (h : H p = some o) : upd (les H p) p o = H := by
  funext b
  by_cases z : b = p
  · subst z; rw [upd_same, h]
  · rw [upd_ne z]; unfold les; rw [if_neg z]
theorem les_same : les H p p = none := by unfold les; rw [if_pos rfl]
theorem les_ne {b : Addr} (h : b ≠ p) : les H p b = H b := by unfold les; rw [if_neg h]
theorem RelH.les (R : RelH K fa S H G B) (hg : G p = none) (hb : p ∉ B) : RelH K fa S (Pv.les H p) G B where
  sub := fun a u e => by rw [les_ne (fun z => by subst z; rw [hg] at e; cases e)]; exact R.sub a u e
  len := R.len
  nd := R.nd
  at_ := fun n ds e => by
    obtain ⟨a, vs, e1, e2, e3, e4, e5⟩ := R.at_ n ds e
    exact ⟨a, vs, e1, by rw [les_ne (fun z => hb (by rw [← z]; exact List.mem_of_getElem? e1))]; exact e2, e3, e4, e5⟩
theorem Stp.les (s : Stp H G B H1 G1 B1) (h : H p = none) : Stp H G B (Pv.les H1 p) G1 B1 where
  keep := fun a u e n => by rw [les_ne (ne_of_none e h)]; exact s.keep a u e n
  liv := fun a e => by rw [les_ne (fun z => e (by rw [z]; exact h))]; exact s.liv a e
  sub := s.sub
  fr := s.fr
  pre := s.pre
/-- what is tracked but has no place, and does not stay for ever: it stays through a step -/
theorem Stp.own (s : Stp H G B H1 G1 B1) {o : HO} (h : H p = some o) (hg : G p = none) (hb : p ∉ B) : H1 p = some o ∧ G1 p = none ∧ p ∉ B1 := by
  refine ⟨s.keep p o h hb, ?_, ?_⟩
  · cases q : G1 p with
    | none => rfl
    | some u =>
      rcases s.fr p u q with z | z
      · rw [hg] at z; cases z
      · rw [h] at z; cases z
  · obtain ⟨C, rfl, hC⟩ := s.pre
    intro z
    rcases List.mem_append.mp z with z | z
    · exact hb z
    · rw [hC p z] at h; cases h
end

section
variable {P : Prg} {cf : Nat → List D → Sto → Option (D × Sto)} {fa : Nat → Addr} {H0 : Hp} {X : Cx} {N : List Str} {sc : Scope}

theorem compL_len {f : D → Sto → Option (Option D × Sto)} : ∀ {xs : List D} {S : Sto} {ds : List D} {S' : Sto}, compL f xs S = some (ds, S') → ds.length ≤ xs.length
  | [], S, ds, S', h => by simp only [compL] at h; cases h; exact Nat.le_refl _
  | x :: xs, S, ds, S', h => by
    simp only [compL] at h
    obtain ⟨⟨o, S1⟩, e1, h⟩ := Option.bind_eq_some_iff.mp h
    obtain ⟨⟨es, S2⟩, e2, h⟩ := Option.map_eq_some_iff.mp h
    have l := compL_len e2
    cases o with
    | none => cases h; simp; omega
    | some y => cases h; simp; omega

/-- the reading of the tests -/
def AIfs (P : Prg) (cf : Nat → List D → Sto → Option (D × Sto)) (fa : Nat → Addr) (H0 : Hp) (K : PySem.W.Frag) : List E → TT
  | [] => tYes
  | e :: _ => AT P cf fa H0 K e

noncomputable def turnC (P : Prg) (cf : Nat → List D → Sto → Option (D × Sto)) (tg : Tg) (ifs : List E) (elt : E) (r : Rho) (own : List Nat) : D → Sto → Option (Option D × Sto) := fun x S1 =>
  (asg tg x (wipeR r own)).bind fun r1 => (evIfs P cf ifs r1 S1).bind fun b => if b.1 then (evE P cf elt r1 b.2).map fun y => (some y.1, y.2) else some (none, b.2)

/-- what holds between two turns: acc is what is made so far, rest what is to come -/
structure TurnI (K : PySem.W.Frag) (fa : Nat → Addr) (f : D → Sto → Option (Option D × Sto)) (Hs Gs : Hp) (Bs : List Addr) (D0 : Addr) (xs : List D) (ds : List D) (S' : Sto) (i : Nat) (H : Hp) : Prop where
  ex : ∃ G B Si acc vs rest, Stp Hs Gs Bs H G B ∧ RelH K fa Si H G B ∧ H D0 = some (.lst vs) ∧ G D0 = none ∧ D0 ∉ B ∧ Dats K fa G B vs acc ∧ compL f (xs.drop i) Si = some (rest, S') ∧ acc ++ rest = ds ∧ acc.length ≤ i

theorem comp_go {J : It} {Hs Gs : Hp} {Bs : List Addr} {S1 S' : Sto} {xs ds : List D} {r : Rho} {σ : Slots} {tg : Tg} {ifs : List E} {elt : E} {own : List Nat} {D0 : Addr} {Qd : Hp → Prop}
    (hl : xs.length < 100000) (hif : ifs.length ≤ 1) (hsl : ∀ i ∈ tg.slots, i ∈ own) (R : RelR X.K fa H0 r σ Hs Gs Bs) (RS : RelH X.K fa S1 Hs Gs Bs) (Y : Yld X.K fa J Gs Bs xs) (hD : Hs D0 = none)
    (hc : compL (turnC P cf tg ifs elt r own) xs S1 = some (ds, S'))
    (q : ∀ H G B vs, Stp Hs Gs Bs H G B → RelH X.K fa S' H G B → H D0 = some (.lst vs) → G D0 = none → D0 ∉ B → Dats X.K fa G B vs ds → Qd H) :
    ∃ W : Nat → Nat → Hp → Prop, (∃ m, W 0 m (upd Hs D0 (.lst []))) ∧ ∀ i m H, W i m H →
      (J.stop i H ∧ Qd H) ∨ (J.go i H ∧ ∃ Nx : Hp → Prop, (∀ H', Nx H' → ∃ m', m' < m ∧ W (i + 1) m' H') ∧ ∀ x H', J.yld i H x H' → gTg X.K tg x (wipe σ own) H' fun σ2 H2 => wipe σ2 own = wipe σ own ∧ AIfs P cf fa H0 X.K ifs σ2 H2 fun b H3 =>
        if b = true then AE P cf fa H0 X.K elt σ2 H3 fun y H4 => ∃ acc, H4 D0 = some (.lst acc) ∧ acc.length < sizeLine ∧ Nx (upd H4 D0 (.lst (acc ++ [y]))) else Nx H3) := by
  have gD : Gs D0 = none := RS.nG hD
  have bD : D0 ∉ Bs := RS.nB hD
  refine ⟨fun i m H => m = xs.length - i ∧ i ≤ xs.length ∧ TurnI X.K fa (turnC P cf tg ifs elt r own) Hs Gs Bs D0 xs ds S' i H, ⟨xs.length, by simp, Nat.zero_le _, ?_⟩, ?_⟩
  · exact ⟨Gs, Bs, S1, [], [], ds, Stp.refl.wrF hD, (RS.layF hD).2, upd_same, gD, bD, rfl, by simpa using hc, rfl, Nat.le_refl _⟩
  · rintro i m H ⟨rfl, hi, ⟨G, B, Si, acc, vs, rest, st, rs, hH, hG, hB, da, hr, hac, hle⟩⟩
    have y := Y H G B st.sub st.ext rs.sub i
    by_cases hlt : i < xs.length
    · have hx : xs[i]? = some xs[i] := by simp [hlt]
      obtain ⟨hgo, hy⟩ := y.1 _ hx
      refine .inr ⟨hgo, TurnI X.K fa (turnC P cf tg ifs elt r own) Hs Gs Bs D0 xs ds S' (i + 1), fun H' t => ⟨xs.length - (i + 1), by omega, rfl, hlt, t⟩, fun x H' hyl => ?_⟩
      obtain ⟨G2, dx, stp⟩ := hy x H' hyl
      obtain ⟨st2, rs2⟩ := stp Si rs
      have hdr : xs.drop i = xs[i] :: xs.drop (i + 1) := List.drop_eq_getElem_cons hlt
      rw [hdr] at hr
      simp only [compL] at hr
      obtain ⟨⟨o, S3⟩, e1, hr⟩ := Option.bind_eq_some_iff.mp hr
      obtain ⟨⟨es, S4⟩, e2, hr⟩ := Option.map_eq_some_iff.mp hr
      unfold turnC at e1
      obtain ⟨r1, f1, e1⟩ := Option.bind_eq_some_iff.mp e1
      obtain ⟨⟨b, S5⟩, f2, e1⟩ := Option.bind_eq_some_iff.mp e1
      obtain ⟨hH2, hG2, hB2⟩ := st2.own hH hG hB
      have da2 := st2.dats da
      refine asg_ok rs2.sub tg _ _ r1 x (wipe σ own) _ f1 (((R.wipe own).step st).step st2) dx fun σ' R' w' => ⟨?_, ?_⟩
      · rw [w' own hsl, wipe_wipe]
      · -- the tests
        have fin : ∀ (H3 G3 : Hp) (B3 : List Addr), Stp H' G2 B H3 G3 B3 → RelH X.K fa S5 H3 G3 B3 → (if b = true then AE P cf fa H0 X.K elt σ' H3 fun y H4 => ∃ acc, H4 D0 = some (.lst acc) ∧ acc.length < sizeLine ∧ TurnI X.K fa (turnC P cf tg ifs elt r own) Hs Gs Bs D0 xs ds S' (i + 1) (upd H4 D0 (.lst (acc ++ [y]))) else TurnI X.K fa (turnC P cf tg ifs elt r own) Hs Gs Bs D0 xs ds S' (i + 1) H3) := by
          intro H3 G3 B3 st3 rs3
          obtain ⟨hH3, hG3, hB3⟩ := st3.own hH2 hG2 hB2
          have da3 := st3.dats da2
          cases b with
          | false =>
            rw [if_neg Bool.false_ne_true]
            have e1' : (some ((none : Option D), S5)) = some (o, S3) := e1
            cases e1'
            cases hr
            exact ⟨G3, B3, _, acc, vs, _, (st.trans st2).trans st3, rs3, hH3, hG3, hB3, da3, e2, hac, by omega⟩
          | true =>
            rw [if_pos rfl]
            obtain ⟨⟨y, S6⟩, e3, e1⟩ := Option.map_eq_some_iff.mp (show (evE P cf elt r1 S5).map _ = some (o, S3) from e1)
            cases e1
            cases hr
            refine ⟨r1, S5, y, S6, e3, G3, B3, R'.step st3, rs3, fun v H4 G4 B4 st4 rs4 dv => ?_⟩
            obtain ⟨hH4, hG4, hB4⟩ := st4.own hH3 hG3 hB3
            have da4 := st4.dats da3
            refine ⟨vs, hH4, by rw [Dats.length _ _ da4, sizeLine_eq]; omega, ⟨G4, B4, S6, acc ++ [y], vs ++ [v], es, ((((st.trans st2).trans st3).trans st4).wrF hD), rs4.wrF hH4 hG4 hB4, upd_same, hG4, hB4, da4.app (Dats.one dv), e2, by rw [List.append_assoc]; exact hac, by simp; omega⟩⟩
        cases ifs with
        | nil =>
          simp only [evIfs] at f2
          cases f2
          exact fin H' G2 B .refl rs2
        | cons e er =>
          have er0 : er = [] := by
            cases er with
            | nil => rfl
            | cons _ _ => simp at hif
          subst er0
          simp only [evIfs] at f2
          obtain ⟨⟨d0, S7⟩, f3, f2⟩ := Option.bind_eq_some_iff.mp f2
          cases d0 <;> first | cases f2 | skip
          rename_i bb
          have hb : b = bb ∧ S5 = S7 := by
            cases bb with
            | true => cases f2; exact ⟨rfl, rfl⟩
            | false => cases f2; exact ⟨rfl, rfl⟩
          obtain ⟨rfl, rfl⟩ := hb
          exact ⟨r1, Si, _, _, f3, G2, B, R', rs2, fun H3 G3 B3 st3 rs3 => fin H3 G3 B3 st3 rs3⟩
    · have e : i = xs.length := by omega
      subst e
      rw [List.drop_length] at hr
      simp only [compL] at hr
      cases hr
      rw [List.append_nil] at hac
      subst hac
      exact .inl ⟨y.2 (Nat.le_refl _), q H G B vs st rs hH hG hB da⟩

/-- the parts of a comprehension, wherever its block stands -/
structure CompOk (P : Prg) (cf : Nat → List D → Sto → Option (D × Sto)) (fa : Nat → Addr) (H0 : Hp) (X : Cx) (own : List (Str × Nat)) (scope : Scope) (tgx itx : Expr) (ifx : List Expr) (eltx : Expr) (tg : Tg) (it : E) (ifs : List E) (elt : E) : Prop where
  it : SI P cf fa H0 X tgx itx it
  ok : BlkOk X.N X.env.scope scope own
  one : ifs.length ≤ 1
  slots : ∀ i ∈ tg.slots, i ∈ own.map (·.2)
  tg : ∀ (s : Shared) (H : Hp) (C : Addr) (cl : List (Str × Addr)) (fp : List Addr), PG (X.blk s H scope (compEnvC scope cl C X.env) fp) tgx (gTg X.K tg)
  ifs : ∀ (s : Shared) (H : Hp) (C : Addr) (cl : List (Str × Addr)) (fp : List Addr), PTs (X.blk s H scope (compEnvC scope cl C X.env) fp) ifx (AIfs P cf fa H0 X.K ifs)
  elt : ∀ (s : Shared) (H : Hp) (C : Addr) (cl : List (Str × Addr)) (fp : List Addr), SE P cf fa H0 (X.blk s H scope (compEnvC scope cl C X.env) fp) eltx elt
  fs : ∀ x, foldedSetIterable itx X.env x = pure x

theorem comp_read {own : List (Str × Nat)} {tg : Tg} {it : E} {ifs : List E} {elt : E} {r : Rho} {S : Sto} {d : D} {S' : Sto} (one : ifs.length ≤ 1) (slots : ∀ i ∈ tg.slots, i ∈ own.map (·.2)) (h : evE P cf (.cmpr (own.map (·.2)) tg it ifs elt) r S = some (d, S')) :
    ∃ ds, d = .lst ds ∧ ∀ σ H Q, TF fa H0 X.K r S ds S' σ H Q → tLc (AI P cf fa H0 X.K it) (gTg X.K tg) (AIfs P cf fa H0 X.K ifs) (AE P cf fa H0 X.K elt) (own.map (·.2)) σ H Q := by
  simp only [evE] at h
  obtain ⟨⟨d1, S1⟩, e1, h⟩ := Option.bind_eq_some_iff.mp h
  obtain ⟨xs, e2, h⟩ := Option.bind_eq_some_iff.mp h
  by_cases c : xs.length < 100000
  case neg => rw [if_neg c] at h; cases h
  rw [if_pos c] at h
  obtain ⟨⟨ds, S2⟩, e3, h⟩ := Option.map_eq_some_iff.mp h
  cases h
  refine ⟨ds, rfl, fun σ H Q ⟨G, B, R, RS, q⟩ => ⟨r, S, d1, S1, xs, G, B, e1, e2, R, RS, fun J H' G' B' st rs Y D0 hD => ?_⟩⟩
  refine comp_go (X := X) (P := P) (cf := cf) c one slots (R.step st) rs Y hD e3 fun H2 G2 B2 vs st2 rs2 hH hG hB da => ?_
  have q' := q D0 vs (les H2 D0) G2 B2 les_same (st.trans (st2.les hD)) (rs2.les hG hB) da
  rw [les_upd hH] at q'
  exact q'
theorem f_comp (W : Wd P cf fa X N sc) {own : List (Str × Nat)} {scope : Scope} {tgx itx eltx : Expr} {ifx : List Expr} {tg : Tg} {it elt : E} {ifs : List E} {pos : Pos} (c : CompOk P cf fa H0 X own scope tgx itx ifx eltx tg it ifs elt) :
    SF P cf fa H0 X (.ListComp eltx [⟨tgx, itx, ifx, 0⟩] scope pos) (.cmpr (own.map (·.2)) tg it ifs elt) := by
  intro r S d S' h
  obtain ⟨ds, rfl, k⟩ := comp_read (X := X) (fa := fa) (H0 := H0) c.one c.slots h
  exact ⟨ds, rfl, (pe_lc W.calm (by rw [W.hN]; exact W.nd) c.it c.ok c.tg c.ifs (fun s H C cl fp => (c.elt s H C cl fp).a) c.fs).wk k⟩
end
end Pv

set_option Elab.async false
set_option linter.all false
set_option maxRecDepth 100000
set_option maxHeartbeats 2000000
/-! SndK: len({x: True for x in a}), the x being tuples of tuples. -/
namespace Pv
open PySem PySem.Spec PyProof.Rows L2

/-- a dict whose keys are such tuples: what is told of its own object -/
def dO (P : Program) (w : World) (D0 : Addr) (xs : List (List Kd × Addr)) : HO := .ext fun h => (D0 == sysModules) = false ∧ xs.length ≤ sizeLine ∧ ∃ ys : List (List Kd × Addr × Value), ys.map (fun y => (y.1, y.2.1)) = xs ∧
  ∃ o es ep, h.get? D0 = some o ∧ o.ExactDict ∧ o.data = .dict es ep ∧ es.toList = ys.map (entryOfKey (kdKind P w)) ∧ (ys.map (·.1)).Nodup
/-- the object at b is the key k -/
def KdAt (K : PySem.W.Frag) (H : Hp) (k : List Kd) (b : Addr) : Prop := Dp K H (.ref b) (Kd.t k).pd ∧ keyOk k = true
noncomputable def putX (xs : List (List Kd × Addr)) (k : List Kd) (b : Addr) : List (List Kd × Addr) := if k ∈ xs.map (·.1) then xs else xs ++ [(k, b)]

mutual
theorem kd_reads {h : Heap} : ∀ (x : Kd) (v : Value) (as : List Addr), Reads h v x.pd as → IsKd h x v
  | .k (.inl i), v, as, r => by
    cases r
    exact keyIs_int _ _
  | .k (.inr s), v, as, r => by
    cases r
    exact keyIs_str _ _
  | .t xs, v, as, r => by
    cases r with
    | tuple h1 h2 h3 h4 => exact ⟨_, _, _, _, rfl, h1, h2, h3, kds_reads xs _ _ h4⟩
theorem kds_reads {h : Heap} : ∀ (xs : List Kd) (vs : List Value) (as : List Addr), ReadsAll h vs (pds xs) as → IsKds h xs vs
  | [], vs, as, r => by
    cases r
    rfl
  | x :: xs, vs, as, r => by
    cases r with
    | cons h1 h2 => exact ⟨_, _, rfl, kd_reads x _ _ h1, kds_reads xs _ _ h2⟩
end

section
variable {X : Cx} {pins : List (Addr × Obj)} {σ : L2.St} {H : Hp} {s : Shared} {D0 : Addr}
theorem KdAt.is {k : List Kd} {b : Addr} (I : Inv X pins σ H s) (h : KdAt X.K H k b) : (kdKind X.prog X.w).is s.heap k b := by
  obtain ⟨as, r⟩ := Dp.reads I _ _ _ h.1 (show RelV (.ref b) (.ref b) from rfl)
  have h2 := h.2
  unfold keyOk at h2
  simp only [Bool.and_eq_true, decide_eq_true_eq] at h2
  exact ⟨kd_reads (.t k) _ _ r, h2.1, h2.2⟩
theorem dO_of {xs : List (List Kd × Addr)} (I : Inv X pins σ H s) (hD : H D0 = some (dO X.prog X.w D0 xs)) (ks : ∀ p ∈ xs, KdAt X.K H p.1 p.2) :
    (D0 == sysModules) = false ∧ xs.length ≤ sizeLine ∧ ∃ ys : List (List Kd × Addr × Value), ys.map (fun y => (y.1, y.2.1)) = xs ∧ s.heap.DictOfH (kdKind X.prog X.w) D0 ys := by
  obtain ⟨⟨z, l, ys, e, o, es, ep, h1, h2, h3, h4, h5⟩, _, _⟩ := (show ObjOk X.prog X.w H s.heap D0 (dO X.prog X.w D0 xs) from I.hok D0 _ hD)
  refine ⟨z, l, ys, e, o, es, ep, h1, h2, h3, h4, fun y hy => ?_, h5⟩
  exact (ks (y.1, y.2.1) (by rw [← e]; exact List.mem_map.mpr ⟨y, hy, rfl⟩)).is I
theorem dO_ok {H' : Hp} {h' : Heap} {xs : List (List Kd × Addr)} {ys : List (List Kd × Addr × Value)} (z : (D0 == sysModules) = false) (l : xs.length ≤ sizeLine) (e : ys.map (fun y => (y.1, y.2.1)) = xs) (d : h'.DictOfH (kdKind X.prog X.w) D0 ys) :
    ObjOk X.prog X.w H' h' D0 (dO X.prog X.w D0 xs) := by
  obtain ⟨o, es, ep, h1, h2, h3, h4, h5, h6⟩ := d
  refine ⟨⟨z, l, ys, e, o, es, ep, h1, h2, h3, h4, h6⟩, ⟨o, h1⟩, ?_⟩
  rintro a b ⟨z, l, ys, e, o, es, ep, h1, r⟩ st
  exact ⟨z, l, ys, e, o, es, ep, st _ h1, r⟩
theorem keys_of {xs : List (List Kd × Addr)} {ys : List (List Kd × Addr × Value)} (e : ys.map (fun y => (y.1, y.2.1)) = xs) : xs.map (·.1) = ys.map (·.1) := by
  subst e
  rw [List.map_map]
  rfl
theorem stored_put {xs : List (List Kd × Addr)} {ys : List (List Kd × Addr × Value)} {k : List Kd} {b : Addr} {u : Value} (e : ys.map (fun y => (y.1, y.2.1)) = xs) :
    (storedH ys k b u).map (fun y => (y.1, y.2.1)) = putX xs k b := by
  unfold putX
  by_cases h : k ∈ ys.map (·.1)
  · rw [if_pos (by rw [keys_of e]; exact h)]
    have hs : (atKey ys k).isSome = true := by
      obtain ⟨y, hy, rfl⟩ := List.mem_map.mp h
      unfold atKey
      rw [Option.isSome_map, List.find?_isSome]
      exact ⟨y, hy, by simp⟩
    obtain ⟨p, hp⟩ := Option.isSome_iff_exists.mp hs
    rw [storedH_old hp, List.map_map, ← e]
    refine List.map_congr_left fun y _ => ?_
    show ((putAt k u y).1, (putAt k u y).2.1) = (y.1, y.2.1)
    unfold putAt
    split <;> rfl
  · rw [if_neg (by rw [keys_of e]; exact h)]
    have hs : atKey ys k = none := by
      unfold atKey
      rw [Option.map_eq_none_iff, List.find?_eq_none]
      intro y hy hk
      exact h (List.mem_map.mpr ⟨y, hy, of_decide_eq_true hk⟩)
    rw [storedH_new hs, List.map_append, e]
    rfl
theorem putX_len (xs : List (List Kd × Addr)) (k : List Kd) (b : Addr) : (putX xs k b).length ≤ xs.length + 1 := by
  unfold putX
  split <;> simp
/-- d[k] = v by a comprehension -/
theorem x_dictSet {E : Value → Shared → Prop} {xs : List (List Kd × Addr)} {k : List Kd} {b : Addr} {r : Value} {Q : Unit → Shared → Prop} (hu : X.A.units + 8 < cLine) (I : Inv X pins σ H s) (hD : H D0 = some (dO X.prog X.w D0 xs)) (hz : xs.length < sizeLine)
    (ks : ∀ p ∈ xs, KdAt X.K H p.1 p.2) (kk : KdAt X.K H k b) (h : ∀ s', Inv X pins σ (upd H D0 (dO X.prog X.w D0 (putX xs k b))) s' → Q () s') : wpAny (model X.prog X.w) X.A (dictSet D0 (.ref b) r) Q E s := by
  obtain ⟨z, l, ys, e, dd⟩ := dO_of I hD ks
  have hl : ys.length = xs.length := by rw [← e, List.length_map]
  refine wpAny_dictSet_heap (knd := kdKind X.prog X.w) (hsz := by omega) hu (kk.is I) dd fun h' dd' hs => h _ ?_
  refine d_write I (by rw [hD]; exact True.intro) hs (let ⟨o, _, _, ho, _⟩ := dd'; ⟨o, ho⟩) (dO_ok z ?_ (stored_put e) dd')
  have := putX_len xs k b
  omega
theorem dO_nil {P : Program} {w : World} {H' : Hp} (h : Heap) (hb : sysModules < h.objs.size) : ObjOk P w H' (h.push { cls := .type "dict", data := .dict #[] }) h.objs.size (dO P w h.objs.size []) := by
  refine ⟨⟨?_, Nat.zero_le _, [], rfl, _, _, _, Heap.get?_push_size _ rfl, ⟨rfl, rfl, rfl⟩, rfl, rfl, List.nodup_nil⟩, ⟨_, Heap.get?_push_size _ rfl⟩, ?_⟩
  · exact beq_eq_false_iff_ne.mpr (Nat.ne_of_gt hb)
  · rintro a b ⟨z, l, ys, e, o, es, ep, h1, r⟩ st
    exact ⟨z, l, ys, e, o, es, ep, st _ h1, r⟩
/-- len of such a dict -/
def rLenX (X : Cx) : List V → Hp → VK → Prop := fun vs H Q => ∃ (p : Addr) (xs : List (List Kd × Addr)), vs = [.ref p] ∧ H p = some (dO X.prog X.w p xs) ∧ (∀ q ∈ xs, KdAt X.K H q.1 q.2) ∧ Q (.int ((xs.length : Nat) : Int)) H
theorem call_len_dX : CallR X (.builtin "len") (rLenX X) := by
  intro pins s σ H vs us Q I r h
  obtain ⟨p, xs, rfl, hp, ks, q⟩ := h
  obtain ⟨u, rfl, rx⟩ := vals1 r
  obtain rfl : u = .ref p := rx
  obtain ⟨z, l, ys, e, dd⟩ := dO_of I hp ks
  have hl : ys.length = xs.length := by rw [← e, List.length_map]
  have hs : ys.length ≤ sizeLine := by omega
  refine call_len_dictH (knd := kdKind X.prog X.w) z dd (Int.lt_of_le_of_lt (Int.ofNat_le.mpr hs) (by decide)) ?_
  exact ⟨.int _, H, (I.tok _), ⟨_, by rw [hl]⟩, q⟩

end
/-! ### the comprehension -/
section
variable {X : Cx}
/-- {x: v for x in iter}: D0 the new dict -/
def tDx (X : Cx) (wi : TI) (g : TG) (tk : TE) (vs : List Nat) : TE := fun σ H Q => wi σ H fun J H1 => ∀ D0, H1 D0 = none → ∃ W : Nat → Nat → Hp → Prop, (∃ m, W 0 m (upd H1 D0 (dO X.prog X.w D0 []))) ∧ ∀ i m H, W i m H →
  (J.stop i H ∧ Q (.ref D0) H) ∨ (J.go i H ∧ ∃ Nx : Hp → Prop, (∀ H', Nx H' → ∃ m', m' < m ∧ W (i + 1) m' H') ∧ ∀ x H', J.yld i H x H' → g x (wipe σ vs) H' fun σ2 H2 => wipe σ2 vs = wipe σ vs ∧
    tk σ2 H2 fun y H4 => ∃ xs k b, y = .ref b ∧ H4 D0 = some (dO X.prog X.w D0 xs) ∧ (∀ p ∈ xs, KdAt X.K H4 p.1 p.2) ∧ KdAt X.K H4 k b ∧ xs.length < sizeLine ∧ Nx (upd H4 D0 (dO X.prog X.w D0 (putX xs k b))))
theorem dx_core {pins : List (Addr × Obj)} {s : Shared} {σ : L2.St} {H : Hp} {Q : VK} {kx vx tg iter : Expr} {scope : Scope} {own : List (Str × Nat)} {pos pos' : Pos} {wi : TI} {g : TG} {tk : TE} {c : V} {use : Option (Value → Sem Unit)} {Qf : Value → Shared → Prop}
    (hu : X.A.units + 8 < cLine) (hc : X.calm = true) (hN : X.N.Nodup) (I : Inv X pins σ H s) (hi : PI X tg iter wi) (ok : BlkOk X.N X.env.scope scope own)
    (hg : ∀ (s : Shared) (H : Hp) (C : Addr) (cl : List (Str × Addr)) (fp : List Addr), PG (X.blk s H scope (compEnvC scope cl C X.env) fp) tg g)
    (hk : ∀ (s : Shared) (H : Hp) (C : Addr) (cl : List (Str × Addr)) (fp : List Addr), PE (X.blk s H scope (compEnvC scope cl C X.env) fp) kx tk)
    (he : ∀ (s : Shared) (H : Hp) (C : Addr) (cl : List (Str × Addr)) (fp : List Addr), PE (X.blk s H scope (compEnvC scope cl C X.env) fp) vx (tC c)) (hs : ∀ x, foldedSetIterable iter X.env x = pure x)
    (h : tDx X wi g tk (own.map (·.2)) σ H Q)
    (hRR : ∀ D0 C s' m H', Inv X pins σ H' s' → Q (.ref D0) H' → s'.heap.Ns C m → FpOk X pins H' C → compPost (model X.prog X.w) X.A X.xe use Qf (.ref D0) C (.ok .next) s') :
    wpAny (model X.prog X.w) X.A (comprehension (.DictComp kx vx [⟨tg, iter, [], 0⟩] scope pos) scope X.env pos' newDict false (eval iter X.env) use) Qf X.xe s := by
  have hfree : ∀ y ∈ scope.names, y.2 = .free → ∃ c, X.env.cells.lookup y.1 = some c := fun y hy e => (ok.free y hy e).elim (fun k => I.ok.has _ (.inl k)) (fun k => I.ok.has _ (.inr k))
  refine wpAny_comprehension_free (use := use) rfl hs (closure_ok hfree) ok.kind (fun y hy e => by rw [ok.uniq y hy, e]) (thn (hi.run pins s σ H _ I h) fun xv s1 hx => thn hx fun itv s2 h2 => ?_)
  obtain ⟨it, fp, tn, J, H2, e, I2, T, st2, f2, q⟩ := h2
  subst e
  refine wpAny_newObj_type (newEnv_comp ?_)
  generalize hD : s2.heap.objs.size = D0
  have hDn : H2 D0 = none := I2.hok.fresh (Nat.le_of_eq hD)
  obtain ⟨W, ⟨m0, w0⟩, turn⟩ := q D0 hDn
  generalize hs3 : ({ s2 with heap := s2.heap.push { cls := .type "dict", data := .dict #[] } } : Shared) = s3
  have h3 : s3.heap = s2.heap.push { cls := .type "dict", data := .dict #[] } := by rw [← hs3]
  have I3 : Inv X pins σ (upd H2 D0 (dO X.prog X.w D0 [])) s3 := by
    rw [← hs3]
    refine I2.laid (t' := s2.toks) (fun b o e => Heap.get?_push_of_some _ e) (Nat.le_of_eq hD) ?_
    rw [← hD]
    exact dO_nil s2.heap I2.big
  have young : ∀ b ∈ fp, b < s2.heap.objs.size := fun b hb => let ⟨o, e, _⟩ := T.obj _ _ st2 b hb; Heap.lt_size e
  have f3 : ∀ b ∈ fp, FpOk X pins (upd H2 D0 (dO X.prog X.w D0 [])) b ∧ b < s3.heap.objs.size := fun b hb => by
    have hlt := young b hb
    refine ⟨⟨?_, (f2 b hb).2⟩, by rw [h3, Heap.size_push]; exact Nat.lt_succ_of_lt hlt⟩
    rw [upd_ne (by rw [← hD]; exact Nat.ne_of_lt hlt)]
    exact (f2 b hb).1
  have st3 : tn 0 s3.heap := T.keep _ _ _ st2 fun b _ o e => by rw [h3]; exact Heap.get?_push_of_some _ e
  have I4 := block_start I3 ok hN f3
  have pg := hg s3 (upd H2 D0 (dO X.prog X.w D0 [])) s3.heap.objs.size (cellsFrom (s3.heap.objs.size + 1) scope.names (cloFrom X.env.cells scope.names [])) fp
  have pk := hk s3 (upd H2 D0 (dO X.prog X.w D0 [])) s3.heap.objs.size (cellsFrom (s3.heap.objs.size + 1) scope.names (cloFrom X.env.cells scope.names [])) fp
  have pe := he s3 (upd H2 D0 (dO X.prog X.w D0 [])) s3.heap.objs.size (cellsFrom (s3.heap.objs.size + 1) scope.names (cloFrom X.env.cells scope.names [])) fp
  show codeAny _ _ (.compStart (.DictComp kx vx [⟨tg, iter, [], 0⟩] scope pos) 0 (.ref it) (.ref D0) (compEnvC scope (cellsFrom (s3.heap.objs.size + 1) scope.names (cloFrom X.env.cells scope.names [])) s3.heap.objs.size X.env)) (compPost (model X.prog X.w) X.A X.xe use Qf (.ref D0) s3.heap.objs.size) { s3 with heap := pushCells (s3.heap.push { cls := .type "dict", data := .dict #[] }) scope.names }
  have nfp : ∀ b ∈ fp, (upd H2 D0 (dO X.prog X.w D0 [])) b = none := fun b hb => (f3 b hb).1.1
  generalize hce : compEnvC scope (cellsFrom (s3.heap.objs.size + 1) scope.names (cloFrom X.env.cells scope.names [])) s3.heap.objs.size X.env = ce at I4 pg pk pe ⊢
  have cL : ce.locals = s3.heap.objs.size := by subst hce; rfl
  generalize hH3 : upd H2 D0 (dO X.prog X.w D0 []) = H3 at I3 I4 pg pk pe w0 nfp f3
  generalize hs4 : ({ s3 with heap := pushCells (s3.heap.push { cls := .type "dict", data := .dict #[] }) scope.names } : Shared) = s4 at I4 ⊢
  have st4 : tn 0 s4.heap := T.keep _ _ _ st3 fun b _ o e => by rw [← hs4]; exact pushCells_keeps _ _ _ _ (Heap.get?_push_of_some _ e)
  have stat : ∀ {σ' : L2.St} {H' : Hp} {s' : Shared}, Inv (X.blk s3 H3 scope ce fp) [] σ' H' s' → (∀ b ∈ fp, H' b = none) → ∀ b ∈ fp, FpOk (X.blk s3 H3 scope ce fp) [] H' b := fun {σ' H' s'} I' hn b hb =>
    ⟨hn b hb, (I'.ok.exf b hb).1, I'.ok.exfs b hb, .inl hb, fun x c e => (I'.ok.exf b hb).2 x c e, fun p hp => absurd (show p ∈ ([] : List (Addr × Obj)) ++ [] from hp) (by simp)⟩
  have loop : codeAny (model X.prog X.w) X.A (.compLoop (.DictComp kx vx [⟨tg, iter, [], 0⟩] scope pos) 0 (.ref it) (.ref D0) ce) (compPost (model X.prog X.w) X.A X.xe use Qf (.ref D0) s3.heap.objs.size) s4 := by
    refine compLoop_anyD (fun n s' => ∃ i H', Inv (X.blk s3 H3 scope ce fp) [] (wipe σ (own.map (·.2))) H' s' ∧ tn i s'.heap ∧ (∀ b ∈ fp, H' b = none) ∧ W i n H') ?_ m0 ⟨0, H3, I4, st4, nfp, w0⟩
    rintro n s5 ⟨i, H5, I5, st5, n5, w5⟩
    rcases turn i n H5 w5 with ⟨stop, qq⟩ | ⟨go, Nx, hNx, step⟩
    · have td := T.done (X.blk s3 H3 scope ce fp) rfl rfl rfl hc i [] s5 _ H5 (fun _ _ => False) I5 (stat I5 n5) st5 stop
      refine thnF td fun r s6 ⟨hr, I6⟩ => ?_
      subst hr
      have I7 : Inv X pins σ H5 s6 := I3.call' (ch := fp) I6.os I6.base I6.hok I6.bare fun b hb => ⟨(f3 b hb).1.2.2.2.1, (f3 b hb).1.2.1, (f3 b hb).1.2.2.2.2.1, (f3 b hb).1.2.2.2.2.2⟩
      have nC : H5 s3.heap.objs.size = none := by
        have z : H5 ce.locals = none := I6.free
        rw [cL] at z
        exact z
      obtain ⟨m, hn, _⟩ := I6.loc
      have hn : s6.heap.Ns ce.locals m := hn
      rw [cL] at hn
      exact hRR D0 s3.heap.objs.size s6 m H5 I7 qq hn (I3.fpOk (Nat.le_refl _) nC)
    · have ti := T.item (X.blk s3 H3 scope ce fp) rfl rfl rfl hc i [] s5 _ H5 (fun _ _ => False) I5 (stat I5 n5) st5 go
      refine thnF ti fun r s6 ⟨u, hr, h6⟩ => ?_
      subst hr
      refine thnF h6 fun _ s7 ⟨x, H7, I7, r7, y7, st7, n7⟩ => ?_
      have I7' := I7.pinned (stat I7 n7) (T.obj _ _ st7)
      refine thnF (pg.run _ s7 _ H7 x u _ I7' r7 (step x H7 y7)) fun _ s8 ⟨σ8, H8, I8, hw8, q8⟩ => ?_
      have fin : ∀ {s' : Shared} {H' : Hp}, Inv (X.blk s3 H3 scope ce fp) ([] ++ pinsAt fp s7.heap) σ8 H' s' → Nx H' → ∃ m, m < n ∧ ∃ i H', Inv (X.blk s3 H3 scope ce fp) [] (wipe σ (own.map (·.2))) H' s' ∧ tn i s'.heap ∧ (∀ b ∈ fp, H' b = none) ∧ W i m H' := fun {s' H'} I' nx => by
        obtain ⟨m', hm, w'⟩ := hNx H' nx
        have pin' : ∀ b ∈ fp, ∀ o, s7.heap.get? b = some o → s'.heap.get? b = some o ∧ H' b = none := fun b hb o e =>
          let z := I'.pin (b, o) (List.mem_append_right _ (List.mem_append_right _ (mem_pinsAt hb e)))
          ⟨z.1, z.2.1⟩
        have hl : (wipe σ (own.map (·.2))).length = σ8.length := by rw [← hw8, wipe_length]
        refine ⟨m', hm, i + 1, H', (I'.unpinned (pins := [])).weak hl (fun j v e => ?_), T.keep _ _ _ st7 fun b hb o e => (pin' b hb o e).1, fun b hb => ?_, w'⟩
        · rw [← hw8] at e
          exact (wipe_some e).1
        · obtain ⟨o, e, _⟩ := T.obj _ _ st7 b hb
          exact (pin' b hb o e).2
      refine thnF ((pts_nil (X := X.blk s3 H3 scope ce fp)).run _ s8 σ8 H8 (fun b H9 => b = true ∧ H9 = H8) I8 ⟨rfl, rfl⟩) fun b s9 ⟨H9, I9, eb, eH⟩ => ?_
      subst eb eH
      simp only [if_true]
      refine thnF (pk.run _ s9 σ8 H9 _ I9 q8) fun z s10 ⟨yk, H10, I10, r10, xs, k, b, ey, hD10, ks, kk, hz, nx⟩ => ?_
      subst ey
      obtain rfl : z = Value.ref b := r10
      refine thnF (pe.run _ s10 σ8 H10 (fun v H11 => H11 = H10) I10 rfl) fun z2 s11 ⟨yv, H11, I11, r11, eH⟩ => ?_
      subst eH
      exact x_dictSet (X := X.blk s3 H3 scope ce fp) hu I11 hD10 hz ks kk fun s12 I12 => fin I12 nx
  exact codeAny_compStart_dict loop (T.self X.A 0 _ _ _ st4 loop)
theorem pe_dx {kx vx tg iter : Expr} {scope : Scope} {own : List (Str × Nat)} {pos : Pos} {wi : TI} {g : TG} {tk : TE} {c : V} (hu : X.A.units + 8 < cLine) (hc : X.calm = true) (hN : X.N.Nodup) (hi : PI X tg iter wi) (ok : BlkOk X.N X.env.scope scope own)
    (hg : ∀ (s : Shared) (H : Hp) (C : Addr) (cl : List (Str × Addr)) (fp : List Addr), PG (X.blk s H scope (compEnvC scope cl C X.env) fp) tg g)
    (hk : ∀ (s : Shared) (H : Hp) (C : Addr) (cl : List (Str × Addr)) (fp : List Addr), PE (X.blk s H scope (compEnvC scope cl C X.env) fp) kx tk)
    (he : ∀ (s : Shared) (H : Hp) (C : Addr) (cl : List (Str × Addr)) (fp : List Addr), PE (X.blk s H scope (compEnvC scope cl C X.env) fp) vx (tC c)) (hs : ∀ x, foldedSetIterable iter X.env x = pure x) :
    PE X (.DictComp kx vx [⟨tg, iter, [], 0⟩] scope pos) (tDx X wi g tk (own.map (·.2))) := by
  refine ⟨fun pins s σ H Q I h => ?_⟩
  rw [arm_eval_DictComp]
  refine dx_core hu hc hN I hi ok hg hk he hs h fun D0 C s' m H' I' q hn f => ⟨m, hn, fun h'' sb => ?_⟩
  obtain ⟨f0, f1, f2, f3, f4, f5⟩ := f
  exact ⟨.ref D0, H', I'.turned (t' := s'.toks) (fun b o hb e => (sb.2 b hb).trans e) f0 f1 f3 f4 f5, rfl, q⟩
end

mutual
theorem kd_py : ∀ (d : D) (x : Kd), kdD d = some x → d.py = some x.pd
  | .int i, x, h => by cases h; rfl
  | .str s, x, h => by cases h; rfl
  | .tup ds, x, h => by
    obtain ⟨xs, e, rfl⟩ := Option.map_eq_some_iff.mp (show (kdDs ds).map Kd.t = some x from h)
    show (pys ds).map PyData.tuple = _
    rw [kds_py ds xs e]
    rfl
  | .non, x, h => by cases h
  | .bl _, x, h => by cases h
  | .lst _, x, h => by cases h
  | .fz _, x, h => by cases h
  | .ref _, x, h => by cases h
  | .fn _, x, h => by cases h
theorem kds_py : ∀ (ds : List D) (xs : List Kd), kdDs ds = some xs → pys ds = some (pds xs)
  | [], xs, h => by cases h; rfl
  | d :: ds, xs, h => by
    obtain ⟨y, e1, h⟩ := Option.bind_eq_some_iff.mp (show ((kdD d).bind fun y => (kdDs ds).map fun ys => y :: ys) = some xs from h)
    obtain ⟨ys, e2, rfl⟩ := Option.map_eq_some_iff.mp h
    show (d.py.bind fun y => (pys ds).map fun ys => y :: ys) = _
    rw [kd_py d y e1, kds_py ds ys e2]
    rfl
end
theorem keyD_at {K : PySem.W.Frag} {fa : Nat → Addr} {G H : Hp} {B : List Addr} {d : D} {v : V} {k : List Kd} (sub : ∀ a o, G a = some o → H a = some o) (h : Dat K fa G B v d) (e : keyD d = some k) : ∃ b, v = .ref b ∧ KdAt K H k b := by
  cases d <;> first | cases e | skip
  rename_i ds
  obtain ⟨xs, e1, e2⟩ := Option.bind_eq_some_iff.mp (show ((kdDs ds).bind fun ks => if keyOk ks = true then some ks else none) = some k from e)
  split at e2
  · rename_i ok
    cases e2
    have hp : (D.tup ds).py = some (Kd.t k).pd := kd_py (.tup ds) (.t k) (by show (kdDs ds).map Kd.t = _; rw [e1]; rfl)
    have dp := Dat.dp sub _ _ _ hp h
    obtain ⟨a, vs, rfl, _, _⟩ := h
    exact ⟨a, rfl, dp, ok⟩
  · cases e2
theorem keysD_get : ∀ {xs : List D} {ks : List (List Kd)}, keysD xs = some ks → ks.length = xs.length ∧ ∀ (n : Nat) (d : D), xs[n]? = some d → ∃ k, ks[n]? = some k ∧ keyD d = some k
  | [], ks, h => by cases h; exact ⟨rfl, fun n d e => by simp at e⟩
  | x :: xs, ks, h => by
    obtain ⟨k, e1, h⟩ := Option.bind_eq_some_iff.mp (show ((keyD x).bind fun k => (keysD xs).map fun ks => k :: ks) = some ks from h)
    obtain ⟨rs, e2, rfl⟩ := Option.map_eq_some_iff.mp h
    obtain ⟨h1, h2⟩ := keysD_get e2
    refine ⟨by simp [h1], fun n d e => ?_⟩
    cases n with
    | zero => simp at e; subst e; exact ⟨k, rfl, e1⟩
    | succ n => simpa using h2 n d (by simpa using e)
theorem addK_len (ks : List (List Kd)) (k : List Kd) : (addK ks k).length ≤ ks.length + 1 := by
  unfold addK
  split <;> simp
theorem distK_take {ks : List (List Kd)} {n : Nat} {k : List Kd} (h : ks[n]? = some k) : distK (ks.take (n + 1)) = addK (distK (ks.take n)) k := by
  unfold distK
  rw [List.take_succ, h]
  simp
theorem fold_len : ∀ (ks acc : List (List Kd)), (ks.foldl addK acc).length ≤ acc.length + ks.length
  | [], acc => by simp
  | k :: ks, acc => by
    have h1 := addK_len acc k
    have h2 := fold_len ks (addK acc k)
    simp only [List.foldl_cons, List.length_cons]
    omega
theorem putX_keys (xs : List (List Kd × Addr)) (k : List Kd) (b : Addr) : (putX xs k b).map (·.1) = addK (xs.map (·.1)) k := by
  unfold putX addK
  split <;> simp

section
variable {P : Prg} {cf : Nat → List D → Sto → Option (D × Sto)} {fa : Nat → Addr} {H0 : Hp} {X : Cx} {N : List Str} {sc : Scope}
structure TurnX (X : Cx) (fa : Nat → Addr) (Hs Gs : Hp) (Bs : List Addr) (D0 : Addr) (ks : List (List Kd)) (S' : Sto) (n : Nat) (H : Hp) : Prop where
  ex : ∃ G B es, Stp Hs Gs Bs H G B ∧ RelH X.K fa S' H G B ∧ G D0 = none ∧ D0 ∉ B ∧ H D0 = some (dO X.prog X.w D0 es) ∧ es.map (·.1) = distK (ks.take n) ∧ ∀ p ∈ es, ∃ d, Dat X.K fa G B (.ref p.2) d ∧ keyD d = some p.1
theorem s_dlen (W : Wd P cf fa X N sc) {own : List (Str × Nat)} {scope : Scope} {tgx itx kx : Expr} {i : Nat} {it : E} {p p2 pos cpos : Pos} {j : Nat} (ho : own.map (·.2) = [i]) (c : CompOk P cf fa H0 X own scope tgx itx [] kx (.nm i) it [] (.var i)) (hg : Gl X ("len" : Str)) :
    SE P cf fa H0 X (.Call (.Name "len" p) [.DictComp kx (.Constant (.bool true) j p2) [⟨tgx, itx, [], 0⟩] scope pos] [] cpos) (.dlen i it) := by
  intro r S d S' h
  simp only [evE] at h
  obtain ⟨⟨d1, S1⟩, e1, h⟩ := Option.bind_eq_some_iff.mp h
  split at h
  case isFalse => cases h
  rename_i hir
  obtain ⟨xs, e2, h⟩ := Option.bind_eq_some_iff.mp h
  unfold dlenD at h
  split at h
  case isFalse => cases h
  rename_i hlen
  obtain ⟨ks, e3, h⟩ := Option.map_eq_some_iff.mp h
  cases h
  obtain ⟨kl, kg⟩ := keysD_get e3
  have hu : X.A.units + 8 < cLine := by have := W.un; omega
  have hv : bootBuiltins ("len" : Str) = some (.builtin "len") := by decide +kernel
  refine (pe_callB (call_len_dX (X := X)) hg (W.bi _ (by decide +kernel)) hv (pa_cons (pe_dx (tk := AE P cf fa H0 X.K (.var i)) hu W.calm (by rw [W.hN]; exact W.nd) c.it c.ok c.tg (fun s H C cl fp => (c.elt s H C cl fp).a) (fun s H C cl fp => pe_bl) c.fs) pa_nil rfl) (by decide) (by decide) rfl rfl).wk fun σ H Q ⟨G, B, R, RS, q⟩ => ?_
  refine ⟨r, S, d1, S1, xs, G, B, e1, e2, R, RS, fun J Hs Gs Bs st rs Y D0 hD => ?_⟩
  have gD : Gs D0 = none := rs.nG hD
  have bD : D0 ∉ Bs := rs.nB hD
  refine ⟨fun n m H => m = xs.length - n ∧ n ≤ xs.length ∧ TurnX X fa Hs Gs Bs D0 ks S1 n H, ⟨xs.length, by simp, Nat.zero_le _, ?_⟩, ?_⟩
  · exact ⟨Gs, Bs, [], Stp.refl.wrF hD, (rs.layF hD).2, gD, bD, upd_same, rfl, fun p hp => nomatch hp⟩
  · rintro n m H ⟨rfl, hi, ⟨G, B, es, st1, rs1, hG, hB, hH, hks, hes⟩⟩
    have y := Y H G B st1.sub st1.ext rs1.sub n
    have hle : es.length ≤ n := by
      have h1 : es.length = (distK (ks.take n)).length := by rw [← hks, List.length_map]
      have h2 := fold_len (ks.take n) []
      have h3 : (ks.take n).length ≤ n := by simp; omega
      unfold distK at h1
      simp at h2
      omega
    by_cases hlt : n < xs.length
    · have hx : xs[n]? = some xs[n] := by simp [hlt]
      obtain ⟨hgo, hy⟩ := y.1 _ hx
      obtain ⟨k, hk1, hk2⟩ := kg n _ hx
      refine .inr ⟨hgo, TurnX X fa Hs Gs Bs D0 ks S1 (n + 1), fun H' t => ⟨xs.length - (n + 1), by omega, rfl, hlt, t⟩, fun x H' hyl => ?_⟩
      obtain ⟨G2, dx, stp⟩ := hy x H' hyl
      obtain ⟨st2, rs2⟩ := stp S1 rs1
      obtain ⟨hH2, hG2, hB2⟩ := st2.own hH hG hB
      have wl : (wipeR r (own.map (·.2))).length = r.length := by rw [ho]; simp [wipeR]
      have ea : asg (.nm i) xs[n] (wipeR r (own.map (·.2))) = some ((wipeR r (own.map (·.2))).set i (some (false, xs[n]))) := by
        simp only [asg]
        rw [if_pos (by rw [wl]; exact hir)]
      show gTg X.K (.nm i) x (wipe σ (own.map (·.2))) H' _
      have RR := ((((R.step st).wipe (own.map (·.2))).step st1).step st2)
      refine asg_ok (K := X.K) rs2.sub (.nm i) _ _ _ x (wipe σ (own.map (·.2))) _ ea RR dx ?_
      intro σ' R' w'
      refine ⟨?_, ?_⟩
      · rw [w' (own.map (·.2)) c.slots, wipe_wipe]
      · refine ⟨_, S1, xs[n], S1, ?_, G2, B, R', rs2, fun v H4 G4 B4 st4 rs4 dv => ?_⟩
        · simp only [evE]
          rw [List.getElem?_set_self (by rw [wl]; exact hir)]
        · obtain ⟨hH4, hG4, hB4⟩ := st4.own hH2 hG2 hB2
          obtain ⟨b, rfl, kat⟩ := keyD_at rs4.sub dv hk2
          have up : ∀ q ∈ es, ∃ d, Dat X.K fa G4 B4 (.ref q.2) d ∧ keyD d = some q.1 := fun q hq => let ⟨d, h1, h2⟩ := hes q hq; ⟨d, st4.dat (st2.dat h1), h2⟩
          refine ⟨es, k, b, rfl, hH4, fun q hq => ?_, kat, by rw [sizeLine_eq]; omega, ⟨G4, B4, putX es k b, ((st1.trans st2).trans st4).wrF hD, rs4.wrF hH4 hG4 hB4, hG4, hB4, upd_same, ?_, fun q hq => ?_⟩⟩
          · obtain ⟨d, h1, h2⟩ := up q hq
            obtain ⟨b', eb, kb⟩ := keyD_at rs4.sub h1 h2
            cases eb
            exact kb
          · rw [putX_keys, hks, distK_take hk1]
          · unfold putX at hq
            split at hq
            · exact up q hq
            · rcases List.mem_append.mp hq with hq | hq
              · exact up q hq
              · rw [List.mem_singleton.mp hq]
                exact ⟨_, dv, hk2⟩
    · have e : n = xs.length := by omega
      subst e
      refine .inl ⟨y.2 (Nat.le_refl _), D0, es, rfl, hH, fun q hq => ?_, ?_⟩
      · obtain ⟨d, h1, h2⟩ := hes q hq
        obtain ⟨b', eb, kb⟩ := keyD_at rs1.sub h1 h2
        cases eb
        exact kb
      · have el : es.length = (distK ks).length := by
          rw [← List.length_map (f := (·.1)), hks, ← kl, List.take_length]
        rw [el]
        exact q _ H G B (st.trans st1) rs1 rfl
end
end Pv

set_option Elab.async false
set_option linter.all false
set_option maxRecDepth 100000
set_option maxHeartbeats 2000000
/-! SndL: list(zip(a, b)) of two tuples. -/
namespace Pv
open PySem PySem.Spec PyProof.Rows L2

/-- the pairs tracked at their addresses -/
def putP : Hp → List Addr → List (V × V) → Hp
  | H, a :: as, p :: ps => putP (upd H a (.tup [p.1, p.2])) as ps
  | H, _, _ => H
theorem putP_off {b : Addr} : ∀ (as : List Addr) (ps : List (V × V)) (H : Hp), b ∉ as → putP H as ps b = H b
  | [], _, _, _ => rfl
  | _ :: _, [], _, _ => rfl
  | a :: as, p :: ps, H, h => by
    show putP (upd H a (.tup [p.1, p.2])) as ps b = H b
    rw [putP_off as ps _ (fun z => h (List.mem_cons_of_mem _ z)), upd_ne (fun z => h (by rw [z]; exact List.mem_cons_self))]
theorem putP_at : ∀ (as : List Addr) (ps : List (V × V)) (H : Hp) (j : Nat) (a : Addr) (p : V × V), as.Nodup → as[j]? = some a → ps[j]? = some p → putP H as ps a = some (.tup [p.1, p.2])
  | [], _, _, _, _, _, _, h, _ => by simp at h
  | _ :: _, [], _, _, _, _, _, _, h => by simp at h
  | b :: as, q :: ps, H, 0, a, p, hn, h1, h2 => by
    have hn' := List.nodup_cons.mp hn
    simp at h1 h2
    subst h1 h2
    show putP (upd H b (.tup [q.1, q.2])) as ps b = _
    rw [putP_off as ps _ hn'.1, upd_same]
  | b :: as, q :: ps, H, j + 1, a, p, hn, h1, h2 => by
    have hn' := List.nodup_cons.mp hn
    exact putP_at as ps _ j a p hn'.2 (by simpa using h1) (by simpa using h2)
theorem putP_keep {b : Addr} {o : HO} (as : List Addr) (ps : List (V × V)) (H : Hp) (hn : ∀ a ∈ as, H a = none) (h : H b = some o) : putP H as ps b = some o := by
  rw [putP_off as ps H (fun z => by rw [hn b z] at h; cases h)]
  exact h

def tZipL (K : PySem.W.Frag) (ta : TA) : TE := fun σ H Q => ta σ H fun vs H1 => ∃ a b xs ys, vs = [.ref a, .ref b] ∧ SqT K H1 a xs ∧ SqT K H1 b ys ∧
  ∀ (p : Addr) (as : List Addr), H1 p = none → (∀ t ∈ as, H1 t = none) → as.Nodup → p ∉ as → as.length = min xs.length ys.length → Q (.ref p) (upd (putP H1 as (List.zip xs ys)) p (.lst (as.map V.ref)))

section
variable {X : Cx}
theorem vals_refs' : ∀ as : List Addr, Vals (as.map V.ref) (as.map Value.ref)
  | [] => .nil
  | _ :: as => .cons rfl (vals_refs' as)
theorem pairs_laid {pins : List (Addr × Obj)} {σ : L2.St} {H : Hp} {s : Shared} {h' : Heap} {tk : Nat} {xs ys : List V} {us ws : List Value} {acc : Array Value} {c : Nat} {as : List Addr} {S lo : Addr} (I : Inv X pins σ H s) (rx : Vals xs us) (ry : Vals ys ws) (hz : xs.length ≤ sizeLine)
    (hk : ∀ b o, s.heap.get? b = some o → h'.get? b = some o) (hS0 : s.heap.objs.size ≤ S) (hlo : S < lo) (hS : h'.get? S = some { cls := .type "list", dict := none, data := .seq acc c, slots := #[] }) (hl : as.length = min xs.length ys.length) (hG : Lz.Made us.toArray ws.toArray lo h' as) (hacc : acc.toList = as.map Value.ref) :
    Inv X pins σ (upd (putP H as (List.zip xs ys)) S (.lst (as.map V.ref))) { s with heap := h', toks := tk } ∧ H S = none ∧ (∀ t ∈ as, H t = none) ∧ as.Nodup ∧ S ∉ as := by
  have nd : as.Nodup := List.Pairwise.imp (fun {a b} (h : a < b) => Nat.ne_of_lt h) hG.rise
  have hSn : S ∉ as := fun z => Nat.lt_irrefl _ (Nat.lt_of_lt_of_le hlo (hG.above _ z))
  have big : ∀ t ∈ as, s.heap.objs.size ≤ t := fun t ht => Nat.le_trans (Nat.le_trans hS0 (Nat.le_of_lt hlo)) (hG.above t ht)
  have new : ∀ t ∈ as, H t = none := fun t ht => I.hok.fresh (big t ht)
  have newS : H S = none := I.hok.fresh hS0
  have kp : ∀ b u, H b = some u → upd (putP H as (List.zip xs ys)) S (.lst (as.map V.ref)) b = some u := fun b u e => by
    rw [upd_ne (fun z => by rw [z, newS] at e; cases e)]
    exact putP_keep as _ H new e
  refine ⟨?_, newS, new, nd, hSn⟩
  refine I.call' (ch := []) rfl ⟨fun b o q _ _ _ => hk b o q, fun b o q _ _ _ => ⟨o.slots, hk b o q⟩, fun b o q n _ => ?_, fun b o q _ => ⟨o, hk b o q⟩, fun b xs q => kp b _ q, fun b o u q => kp b _ q, fun b ps q => ⟨#[], by rw [kp b _ q]; simp⟩⟩ (fun b u q => ?_) I.bare fun b z => by simp at z
  · have hb := Heap.lt_size q
    rw [upd_ne (Nat.ne_of_lt (Nat.lt_of_lt_of_le hb hS0)), putP_off as _ H (fun z => Nat.lt_irrefl _ (Nat.lt_of_lt_of_le hb (big b z)))]
    exact n
  · by_cases hb2 : b = S
    · subst hb2
      rw [upd_same] at q
      cases q
      refine ⟨by rw [List.length_map, hl]; omega, acc.toList, c, by rw [hacc]; exact vals_refs' as, ?_⟩
      rw [Array.toArray_toList]
      exact hS
    · rw [upd_ne hb2] at q
      by_cases hb : b ∈ as
      · obtain ⟨j, hj⟩ := List.mem_iff_getElem?.mp hb
        obtain ⟨u1, u2, e1, e2, e3⟩ := hG.pairs j b hj
        have l1 := rx.length
        have l2 := ry.length
        have e1' : us[j]? = some u1 := by simpa using e1
        have e2' : ws[j]? = some u2 := by simpa using e2
        obtain ⟨hj1, _⟩ := List.getElem?_eq_some_iff.mp e1'
        obtain ⟨hj2, _⟩ := List.getElem?_eq_some_iff.mp e2'
        have hx : xs[j]? = some (xs[j]'(by omega)) := List.getElem?_eq_getElem _
        have hy : ys[j]? = some (ys[j]'(by omega)) := List.getElem?_eq_getElem _
        obtain ⟨v1, f1, r1⟩ := rx.get hx
        obtain ⟨v2, f2, r2⟩ := ry.get hy
        rw [e1'] at f1
        rw [e2'] at f2
        cases f1
        cases f2
        have hz2 : (List.zip xs ys)[j]? = some (xs[j]'(by omega), ys[j]'(by omega)) := by
          rw [List.getElem?_zip_eq_some]
          exact ⟨hx, hy⟩
        rw [putP_at as _ H j b _ nd hj hz2] at q
        cases q
        exact ⟨by show 2 ≤ sizeLine; decide, [u1, u2], .cons r1 (.cons r2 .nil), ⟨_, e3, rfl, _, rfl⟩⟩
      · rw [putP_off as _ H hb] at q
        exact (I.hok b u q).stay (fun d v _ y => hk d v y) (fun d y => kp d _ y) fun d xs y => kp d _ y
/-- list(zip(e, e2)) -/
theorem pe_listZip {e e2 : Expr} {ta : TA} {p p2 pos2 pos : Pos} (hc : X.calm = true) (ha : PA X [e, e2] ta) (hg : Gl X "list") (hm : X.mg "list" = none) (hg2 : Gl X "zip") (hm2 : X.mg "zip" = none) (hv : bootBuiltins "list" = some (.type "list"))
    (hs : starEach [e, e2] X.env = (false, eval e X.env) :: starEach [e2] X.env) (hpl : (backTo pos2 (starEach [e2] X.env)).any (·.1) = false)
    (hs2 : starEach [.Call (.Name "zip" p2) [e, e2] [] pos2] X.env = (false, eval (.Call (.Name "zip" p2) [e, e2] [] pos2) X.env) :: starEach [] X.env) :
    PE X (.Call (.Name "list" p) [.Call (.Name "zip" p2) [e, e2] [] pos2] [] pos) (tZipL X.K ta) := by
  refine ⟨fun pins s σ H Q I hq => ?_⟩
  refine wpAny_Call_Name_kw (ld_blt I hg hm hv ?_)
  refine PyProof.Rows.callWith_type1 ?_ hs2 rfl
  rw [hs2]
  show wpAny _ _ (spliced ((false, eval (.Call (.Name "zip" p2) [e, e2] [] pos2) X.env) :: backTo pos (starEach [] X.env))) _ _ s
  refine Calls.spliced_cons ?_
  refine Call_ (ld_blt I hg2 hm2 PyProof.Rows.boot_zip (PyProof.Rows.callWith_type1 (thn (ha.run pos2 pins s σ H _ I hq) fun us s1 ⟨vs, H1, I1, r1, q1⟩ => ?_) hs hpl))
  obtain ⟨a, b, xs, ys, ex, hqx, hqy, q⟩ := q1
  subst ex
  cases r1 with
  | cons r rr =>
    cases rr with
    | cons r' rr =>
      cases rr
      cases r
      cases r'
      obtain ⟨its, rv, p1, hx1⟩ := I1.tuple hqx
      obtain ⟨its2, rv2, p2', hx2⟩ := I1.tuple hqy
      obtain ⟨o1, ho1, _⟩ := id p1
      obtain ⟨o2, ho2, _⟩ := id p2'
      have t1 : s1.heap.IsTuple a its.toArray := p1
      have t2 : s1.heap.IsTuple b its2.toArray := p2'
      refine RZ.call_zipT t1 t2 fun h' hz hTI hTO h1 h2 hsz hk => ?_
      refine Calls.spliced_nil ?_
      have l1 := rv.length
      have l2 := rv2.length
      refine Lz.z_call (s := { s1 with heap := h' }) (N := s1.heap.objs.size) (I1.ok.hd hc) hsz (Heap.lt_size ho1) (Heap.lt_size ho2) hz hTI hTO h1 h2 (t1.at fun o e => hk _ o e) (t2.at fun o e => hk _ o e) (min xs.length ys.length) (by rw [l1, l2]; simp) ?_ fun h2' tk acc c as hk2 hS hl hG hacc => ?_
      · exact Nat.le_trans (Nat.min_le_left _ _) hx1
      · have hk3 : ∀ b o, s1.heap.get? b = some o → h2'.get? b = some o := fun b o e => hk2 b o (Heap.lt_size e) (hk b o e)
        obtain ⟨J, n1, n2, n3, n4⟩ := pairs_laid (tk := tk) I1 rv rv2 hx1 hk3 (Nat.le_add_right _ 5) (Nat.lt_succ_self _) hS hl hG hacc
        exact ⟨.ref _, _, J, rfl, q _ as n1 n2 n3 n4 hl⟩
end

section
variable {P : Prg} {cf : Nat → List D → Sto → Option (D × Sto)} {fa : Nat → Addr} {H0 : Hp} {X : Cx} {N : List Str} {sc : Scope}
theorem putP_stp {K : PySem.W.Frag} {S : Sto} : ∀ (as : List Addr) (ps : List (V × V)) (H G : Hp) (B : List Addr), RelH K fa S H G B → (∀ t ∈ as, H t = none) → as.Nodup → Stp H G B (putP H as ps) (putP G as ps) B ∧ RelH K fa S (putP H as ps) (putP G as ps) B
  | [], ps, H, G, B, R, _, _ => ⟨.refl, R⟩
  | a :: as, [], H, G, B, R, _, _ => ⟨.refl, R⟩
  | a :: as, p :: ps, H, G, B, R, hn, nd => by
    have nd' := List.nodup_cons.mp nd
    obtain ⟨s1, r1⟩ := R.lay (o := .tup [p.1, p.2]) (hn a List.mem_cons_self)
    obtain ⟨s2, r2⟩ := putP_stp as ps (upd H a (.tup [p.1, p.2])) (upd G a (.tup [p.1, p.2])) B r1 (fun t ht => by
      rw [upd_ne (fun z => nd'.1 (by rw [← z]; exact ht))]
      exact hn t (List.mem_cons_of_mem _ ht)) nd'.2
    exact ⟨s1.trans s2, r2⟩
theorem zip_dats {K : PySem.W.Frag} {G : Hp} {B : List Addr} : ∀ (as : List Addr) (vs ws : List V) (xs ys : List D), as.length = min vs.length ws.length → Dats K fa G B vs xs → Dats K fa G B ws ys → (∀ (j : Nat) (a : Addr) (p : V × V), as[j]? = some a → (List.zip vs ws)[j]? = some p → G a = some (.tup [p.1, p.2])) →
    Dats K fa G B (as.map V.ref) (zipL xs ys)
  | as, vs, ws, [], ys, hl, h1, h2, hp => by
    cases (show vs = [] from h1)
    have : as = [] := List.eq_nil_of_length_eq_zero (by rw [hl]; simp)
    subst this
    rfl
  | as, vs, ws, x :: xs, [], hl, h1, h2, hp => by
    cases (show ws = [] from h2)
    have : as = [] := List.eq_nil_of_length_eq_zero (by rw [hl]; simp)
    subst this
    rfl
  | as, vs, ws, x :: xs, y :: ys, hl, h1, h2, hp => by
    obtain ⟨v, vr, rfl, dv, dvr⟩ := h1
    obtain ⟨u, wr, rfl, du, dwr⟩ := h2
    cases as with
    | nil => simp at hl
    | cons a as =>
      refine ⟨.ref a, as.map V.ref, rfl, ⟨a, [v, u], rfl, .inl (.inl (hp 0 a (v, u) rfl rfl)), v, [u], rfl, dv, u, [], rfl, du, rfl⟩, ?_⟩
      refine zip_dats as vr wr xs ys (by simp at hl; omega) dvr dwr fun j b p h1 h2 => hp (j + 1) b p (by simpa using h1) (by simpa using h2)
/-- list(zip(e1, e2)): a new list -/
theorem f_lzip (W : Wd P cf fa X N sc) {e1 e2 : E} {x y : Expr} {p p2 pos pos2 : Pos} (hg : Gl X ("list" : Str)) (hg2 : Gl X ("zip" : Str)) (hx : noStar x = true) (hy : noStar y = true) (h1 : SE P cf fa H0 X x e1) (h2 : SE P cf fa H0 X y e2) :
    SF P cf fa H0 X (.Call (.Name "list" p) [.Call (.Name "zip" p2) [x, y] [] pos2] [] pos) (.lzip e1 e2) := by
  intro r S d S' h
  simp only [evE] at h
  obtain ⟨⟨d1, S1⟩, f1, h⟩ := Option.bind_eq_some_iff.mp h
  obtain ⟨⟨d2, S2⟩, f2, h⟩ := Option.bind_eq_some_iff.mp h
  split at h
  case h_2 => cases h
  rename_i xs ys k1 k2
  cases h
  have k1' : d1 = .tup xs := k1
  have k2' : d2 = .tup ys := k2
  subst k1' k2'
  have hv : bootBuiltins ("list" : Str) = some (.type "list") := by decide +kernel
  refine ⟨_, rfl, (pe_listZip W.calm (pa_cons (h1 r S _ _ f1) (pa_cons (h2 r S1 _ _ f2) pa_nil (star_of hy)) (star_of hx)) hg (W.bi _ (by decide +kernel)) hg2 (W.bi _ (by decide +kernel)) hv (star_of hx) (by rw [star_of hy]; rfl) rfl).wk fun σ H Q ⟨G, B, R, RS, q⟩ => ?_⟩
  refine ⟨G, B, R, RS, fun v1 H1 G1 B1 st1 rs1 dt1 => ⟨G1, B1, R.step st1, rs1, fun v2 H2 G2 B2 st2 rs2 dt2 => ?_⟩⟩
  obtain ⟨a, vs, rfl, s1, t1⟩ := st2.dat dt1
  obtain ⟨b, ws, rfl, s2, t2⟩ := dt2
  refine ⟨a, b, vs, ws, rfl, SqT.up rs2.sub s1, SqT.up rs2.sub s2, fun pp as n1 n2 n3 n4 hl => ?_⟩
  obtain ⟨st3, rs3⟩ := putP_stp as (List.zip vs ws) H2 G2 B2 rs2 n2 n3
  refine q pp (as.map V.ref) _ _ _ ?_ ((st1.trans st2).trans st3) rs3 ?_
  · rw [putP_off as _ H2 n4]
    exact n1
  · exact zip_dats as vs ws xs ys hl (st3.dats t1) (st3.dats t2) fun j c p h1 h2 => putP_at as _ G2 j c p n3 h1 h2
end
end Pv

set_option Elab.async false
set_option linter.all false
set_option maxRecDepth 100000
/-! SndJ: chains, list(range), calls of a name that holds a def. -/
namespace Pv
open PySem PySem.Spec PyProof.Rows L2

section
variable {P : Prg} {cf : Nat → List D → Sto → Option (D × Sto)} {fa : Nat → Addr} {H0 : Hp} {X : Cx} {N : List Str} {sc : Scope}

theorem op_no {f : Value → Value → Sem Value} : OpR X f (fun _ _ _ _ => False) := fun _ _ _ _ _ _ _ _ _ _ _ _ h => h.elim
theorem GoodR.at {K : PySem.W.Frag} {rd : R2} {x y d : D} (g : GoodR K fa rd x y d) {v1 v2 : V} {H G : Hp} {B : List Addr} {S : Sto} {Q : VK} (RS : RelH K fa S H G B) (d1 : Dat K fa G B v1 x) (d2 : Dat K fa G B v2 y)
    (q : ∀ v H' G' B', Stp H G B H' G' B' → RelH K fa S H' G' B' → Dat K fa G' B' v d → Q v H') : rd v1 v2 H Q := g v1 v2 H G B S Q RS (.inl d1) (.inl d2) q

theorem s_chn (W : Wd P cf fa X N sc) {op op2 : CmpOp} {a b c : E} {xa xb xc : Expr} {pos : Pos} (ha : SE P cf fa H0 X xa a) (hb : SE P cf fa H0 X xb b) (hc : SE P cf fa H0 X xc c) (hm : lastMarks [op, op2] [xb, xc] = false) :
    SE P cf fa H0 X (.Compare xa [op, op2] [xb, xc] pos) (.chn op op2 a b c) ∧ ST P cf fa H0 X (.Compare xa [op, op2] [xb, xc] pos) (.chn op op2 a b c) := by
  refine ⟨fun r S d S' h => ?_, fun r S d S' h => ?_⟩
  · simp only [evE] at h
    obtain ⟨⟨d1, S1⟩, e1, h⟩ := Option.bind_eq_some_iff.mp h
    obtain ⟨⟨d2, S2⟩, e2, h⟩ := Option.bind_eq_some_iff.mp h
    obtain ⟨k, e3, h⟩ := Option.bind_eq_some_iff.mp h
    obtain ⟨rd, hop, good⟩ := cmpD_ok (fa := fa) W.un e3
    cases k with
    | true =>
      rw [if_pos rfl] at h
      obtain ⟨⟨d3, S3⟩, e4, h⟩ := Option.bind_eq_some_iff.mp h
      obtain ⟨k2, e5, h⟩ := Option.map_eq_some_iff.mp h
      cases h
      obtain ⟨rd2, hop2, good2⟩ := cmpD_ok (fa := fa) W.un e5
      exact (pe_chain hop hop2 (ha r S _ _ e1) (hb r S1 _ _ e2) (hc r S2 _ _ e4) hm).wk fun σ H Q ⟨G, B, R, RS, q⟩ => ⟨G, B, R, RS, fun v1 H1 G1 B1 st1 rs1 dt1 => ⟨G1, B1, R.step st1, rs1, fun v2 H2 G2 B2 st2 rs2 dt2 =>
        good.at rs2 (st2.dat dt1) dt2 fun v H3 G3 B3 st3 rs3 dt3 => ⟨true, dt3, iteT ⟨G3, B3, ((R.step st1).step st2).step st3, rs3, fun v3 H4 G4 B4 st4 rs4 dt4 =>
          good2.at rs4 (st4.dat (st3.dat dt2)) dt4 fun w H5 G5 B5 st5 rs5 dt5 => q w H5 G5 B5 ((((st1.trans st2).trans st3).trans st4).trans st5) rs5 dt5⟩⟩⟩⟩
    | false =>
      rw [if_neg Bool.false_ne_true] at h
      cases h
      exact (pe_chain hop op_no (ha r S _ _ e1) (hb r S1 _ _ e2) pe_no hm).wk fun σ H Q ⟨G, B, R, RS, q⟩ => ⟨G, B, R, RS, fun v1 H1 G1 B1 st1 rs1 dt1 => ⟨G1, B1, R.step st1, rs1, fun v2 H2 G2 B2 st2 rs2 dt2 =>
        good.at rs2 (st2.dat dt1) dt2 fun v H3 G3 B3 st3 rs3 dt3 => ⟨false, dt3, iteF (q _ H3 G3 B3 ((st1.trans st2).trans st3) rs3 rfl)⟩⟩⟩
  · simp only [evE] at h
    obtain ⟨⟨d1, S1⟩, e1, h⟩ := Option.bind_eq_some_iff.mp h
    obtain ⟨⟨d2, S2⟩, e2, h⟩ := Option.bind_eq_some_iff.mp h
    obtain ⟨k, e3, h⟩ := Option.bind_eq_some_iff.mp h
    obtain ⟨rd, hop, good⟩ := cmpD_ok (fa := fa) W.un e3
    cases k with
    | true =>
      rw [if_pos rfl] at h
      obtain ⟨⟨d3, S3⟩, e4, h⟩ := Option.bind_eq_some_iff.mp h
      obtain ⟨k2, e5, h⟩ := Option.map_eq_some_iff.mp h
      cases h
      obtain ⟨rd2, hop2, good2⟩ := cmpD_ok (fa := fa) W.un e5
      exact (pt_chain hop hop2 (ha r S _ _ e1) (hb r S1 _ _ e2) (hc r S2 _ _ e4) hm).wk fun σ H Q ⟨G, B, R, RS, q⟩ => ⟨G, B, R, RS, fun v1 H1 G1 B1 st1 rs1 dt1 => ⟨G1, B1, R.step st1, rs1, fun v2 H2 G2 B2 st2 rs2 dt2 =>
        good.at rs2 (st2.dat dt1) dt2 fun v H3 G3 B3 st3 rs3 dt3 => ⟨true, dt3, iteT ⟨G3, B3, ((R.step st1).step st2).step st3, rs3, fun v3 H4 G4 B4 st4 rs4 dt4 =>
          good2.at rs4 (st4.dat (st3.dat dt2)) dt4 fun w H5 G5 B5 st5 rs5 dt5 => ⟨_, dt5, q H5 G5 B5 ((((st1.trans st2).trans st3).trans st4).trans st5) rs5⟩⟩⟩⟩⟩
    | false =>
      rw [if_neg Bool.false_ne_true] at h
      cases h
      exact (pt_chain hop op_no (ha r S _ _ e1) (hb r S1 _ _ e2) pe_no hm).wk fun σ H Q ⟨G, B, R, RS, q⟩ => ⟨G, B, R, RS, fun v1 H1 G1 B1 st1 rs1 dt1 => ⟨G1, B1, R.step st1, rs1, fun v2 H2 G2 B2 st2 rs2 dt2 =>
        good.at rs2 (st2.dat dt1) dt2 fun v H3 G3 B3 st3 rs3 dt3 => ⟨false, dt3, iteF ⟨_, rfl, q H3 G3 B3 ((st1.trans st2).trans st3) rs3⟩⟩⟩⟩

theorem dats_ints {K : PySem.W.Frag} {G : Hp} {B : List Addr} (f : Nat → Int) : ∀ l : List Nat, Dats K fa G B (l.map fun i => V.int (f i)) (l.map fun i => D.int (f i))
  | [] => rfl
  | i :: l => ⟨_, _, rfl, rfl, dats_ints f l⟩
theorem rg_ok {i j : Int} (h : rangeOk i j = true) : RgOk i j := by
  unfold rangeOk at h
  simp only [Bool.and_eq_true, decide_eq_true_eq] at h
  exact ⟨h.1.1.1.1, h.1.1.1.2, h.1.1.2, h.1.2, by omega⟩
theorem f_listRg1 (W : Wd P cf fa X N sc) {x : Expr} {p p2 pos pos2 : Pos} {e1 : E} (hl : Gl X ("list" : Str)) (hg : Gl X ("range" : Str)) (hx : noStar x = true) (n1 : ∀ y, e1 ≠ .star y) (h1 : SE P cf fa H0 X x e1) :
    SF P cf fa H0 X (.Call (.Name "list" p) [.Call (.Name "range" p2) [x] [] pos2] [] pos) (.bi .list [.rng [e1]]) := by
  intro r S d S' h
  obtain ⟨y, f1, f2⟩ := bi1_ev (fun _ z => by cases z) h
  simp only [evE] at f1
  rw [evEs_cons n1] at f1
  simp only [evEs, Option.map_some] at f1
  obtain ⟨⟨ds, S1⟩, g1, f1⟩ := Option.bind_eq_some_iff.mp f1
  obtain ⟨⟨d1, S2⟩, g2, g3⟩ := Option.bind_eq_some_iff.mp g1
  cases g3
  obtain ⟨ys, g4, f1⟩ := Option.map_eq_some_iff.mp f1
  cases f1
  unfold rngD at g4
  split at g4
  · rename_i j ej
    split at g4
    · rename_i c
      cases g4
      cases f2
      have ej' : d1 = .int j := by simpa using ej
      subst ej'
      refine ⟨_, rfl, (pe_listRg W.calm hl (W.bi _ (by decide +kernel)) (prg_1 hg (W.bi _ (by decide +kernel)) (h1 r S _ _ g2) (star_of hx))).wk fun σ H Q ⟨G, B, R, RS, q⟩ => ⟨G, B, R, RS, fun v1 H1 G1 B1 st1 rs1 dt1 => ⟨j, dt1, rg_ok c, fun l hl => ?_⟩⟩⟩
      have q' := q l (rgV 0 j) H1 G1 B1 hl st1 rs1
      unfold rgV at q' ⊢
      rw [Int.sub_zero] at q' ⊢
      exact q' (dats_ints (fun i => 0 + (i : Nat)) _)
    · cases g4
  · rename_i i j ej
    simp at ej
  · cases g4
theorem f_listRg2 (W : Wd P cf fa X N sc) {x y : Expr} {p p2 pos pos2 : Pos} {e1 e2 : E} (hl : Gl X ("list" : Str)) (hg : Gl X ("range" : Str)) (hx : noStar x = true) (hy : noStar y = true) (n1 : ∀ y, e1 ≠ .star y) (n2 : ∀ y, e2 ≠ .star y) (h1 : SE P cf fa H0 X x e1) (h2 : SE P cf fa H0 X y e2) :
    SF P cf fa H0 X (.Call (.Name "list" p) [.Call (.Name "range" p2) [x, y] [] pos2] [] pos) (.bi .list [.rng [e1, e2]]) := by
  intro r S d S' h
  obtain ⟨z, f1, f2⟩ := bi1_ev (fun _ z => by cases z) h
  simp only [evE] at f1
  rw [evEs_cons n1] at f1
  obtain ⟨⟨ds, S1⟩, g1, f1⟩ := Option.bind_eq_some_iff.mp f1
  obtain ⟨⟨d1, S2⟩, g2, g3⟩ := Option.bind_eq_some_iff.mp g1
  rw [evEs_cons n2] at g3
  simp only [evEs, Option.map_some] at g3
  obtain ⟨⟨d2s, S3⟩, g5, g6⟩ := Option.map_eq_some_iff.mp g3
  obtain ⟨⟨d2, S4⟩, g7, g8⟩ := Option.bind_eq_some_iff.mp g5
  cases g8
  cases g6
  obtain ⟨ys, g4, f1⟩ := Option.map_eq_some_iff.mp f1
  cases f1
  unfold rngD at g4
  split at g4
  · rename_i j ej
    simp at ej
  · rename_i i j ej
    split at g4
    · rename_i c
      cases g4
      cases f2
      have ej' : d1 = .int i ∧ d2 = .int j := by simpa using ej
      obtain ⟨rfl, rfl⟩ := ej'
      refine ⟨_, rfl, (pe_listRg W.calm hl (W.bi _ (by decide +kernel)) (prg_2 hg (W.bi _ (by decide +kernel)) (h1 r S _ _ g2) (h2 r S2 _ _ g7) (by rw [star_of hx]) (star_of hy) (plain_of (by rw [List.all_cons, hy]; rfl)))).wk fun σ H Q ⟨G, B, R, RS, q⟩ => ⟨G, B, R, RS, fun v1 H1 G1 B1 st1 rs1 dt1 => ⟨G1, B1, R.step st1, rs1, fun v2 H2 G2 B2 st2 rs2 dt2 =>
        ⟨i, j, dt1, dt2, rg_ok c, fun l hl => q l (rgV i j) H2 G2 B2 hl (st1.trans st2) rs2 (dats_ints (fun k => i + (k : Nat)) _)⟩⟩⟩⟩
    · cases g4
  · cases g4

/-- a call of a name that holds a def -/
theorem s_callv (W : Wd P cf fa X N sc) (ar : Arity P cf) (fnd : ∀ (j : Nat) (ds : List D) (S : Sto) (q : D × Sto), cf j ds S = some q → ∃ g, P.fns[j]? = some g) {i : Nat} {n : Str} {es : List E} {x : Expr} {xs : List Expr} {p pos : Pos} (hi : X.N[i]? = some n) (hv : Vis X.env.scope n) (hd : (n == ("__debug__" : Str)) = false) (hcd : (n == ("__classdict__" : Str)) = false)
    (hx : noStar x = true) (hxs : xs.all noStar = true) (ha : SA P cf fa H0 X (x :: xs) es) : SE P cf fa H0 X (.Call (.Name n p) (x :: xs) [] pos) (.callv (.var i) es) := by
  intro r S d S' h
  simp only [evE] at h
  obtain ⟨⟨d0, S0⟩, e0, h2⟩ := Option.bind_eq_some_iff.mp h
  clear h
  cases d0 <;> first | cases h2 | skip
  rename_i j
  obtain ⟨⟨ds, S1⟩, e1, h3⟩ := Option.bind_eq_some_iff.mp h2
  clear h2
  have hs : r[i]? = some (some (false, .fn j)) ∧ S0 = S := by
    split at e0
    · rename_i q
      cases e0
      exact ⟨q, rfl⟩
    · cases e0
  obtain ⟨hs, rfl⟩ := hs
  obtain ⟨g, hj⟩ := fnd j ds S1 _ h3
  refine ⟨fun pins s σ H Q I ⟨G, B, R, RS, q⟩ => ?_⟩
  obtain ⟨v, sv, ok⟩ := R.at_ i false _ hs
  have ok' : v = .ref (fa j) := ok
  subst ok'
  refine wpAny_Call_Name_kw (thn ((pe_var (pos := p) hi hv hd hcd).run pins s σ H (fun v H1 => v = .ref (fa j) ∧ H1 = H) I ⟨.ref (fa j), sv, rfl, rfl⟩) fun u s1 ⟨v, H1, I1, r1, q1⟩ => ?_)
  obtain ⟨rfl, rfl⟩ := q1
  cases r1
  refine PySem.W.callWith_K (h₀ := X.base) I.ok.mod.kin (W.fnv j g hj).2 (thn ((ha r S0 _ _ e1).run pos pins s1 σ H1 (fun vs H2 => ∃ G1 B1, Stp H1 G B H2 G1 B1 ∧ RelH X.K fa S1 H2 G1 B1 ∧ Dats X.K fa G1 B1 vs ds) I1 ⟨G, B, R, RS, fun vs H1 G1 B1 st rs dt => ⟨G1, B1, st, rs, dt⟩⟩) fun us s1 ⟨vs, H2, I2, rv, G1, B1, st, rs, dt⟩ => ⟨I2.kIn, ?_⟩) (star_of hx) (plain_of hxs)
  exact run_call W hj I2 rv rs dt h3 (ar j g ds S1 _ hj h3) fun v H' G' B' st2 rs2 dv => q v H' G' B' (st.trans st2) rs2 dv
end
end Pv

set_option Elab.async false
set_option linter.all false
set_option maxRecDepth 100000
/-! SndS: statements. Hs, Gs, Bs: the heap at the def's entry. -/
namespace Pv
open PySem PySem.Spec PyProof.Rows L2

/-- what stood at a turn's begin stands -/
def Flo (Gl : Hp) (Bl : List Addr) (G : Hp) (B : List Addr) : Prop := (∀ a o, Gl a = some o → G a = some o) ∧ ∃ C, B = Bl ++ C
def StF (Hs Gs : Hp) (Bs : List Addr) (Gl : Hp) (Bl : List Addr) (H G : Hp) (B : List Addr) : Prop := Stp Hs Gs Bs H G B ∧ Flo Gl Bl G B
section
variable {Hs Gs Gl H G H' G' : Hp} {Bs Bl B B' : List Addr}
theorem StF.trans (s : StF Hs Gs Bs Gl Bl H G B) (t : Stp H G B H' G' B') : StF Hs Gs Bs Gl Bl H' G' B' := by
  obtain ⟨C, rfl⟩ := s.2.2
  obtain ⟨C', rfl, _⟩ := t.pre
  exact ⟨s.1.trans t, fun a o e => t.sub a o (s.2.1 a o e), C ++ C', by simp⟩
theorem StF.wrF {p : Addr} {o : HO} (s : StF Hs Gs Bs Gl Bl H G B) (h : Hs p = none) : StF Hs Gs Bs Gl Bl (upd H p o) G B := ⟨s.1.wrF h, s.2⟩
theorem StF.liv (s : StF Hs Gs Bs Gl Bl H G B) : ∀ a, Hs a ≠ none → H a ≠ none := s.1.liv
end
section
variable (K : PySem.W.Frag) (fa : Nat → Addr) (Hs Gs : Hp) (Bs : List Addr) (Gl : Hp) (Bl : List Addr)
def SR (r : Rho) (S : Sto) (σ : Slots) (H : Hp) : Prop := ∃ G B, StF Hs Gs Bs Gl Bl H G B ∧ RelR K fa Hs r σ H G B ∧ RelH K fa S H G B
def ContS (D : Ends) (S' : Sto) : Out → Prop
  | .nx r' => ∀ σ' H', SR K fa Hs Gs Bs Gl Bl r' S' σ' H' → D.nx σ' H'
  | .rt d => ∀ v H' G' B', Stp Hs Gs Bs H' G' B' → RelH K fa S' H' G' B' → Dat K fa G' B' v d → D.rt v H'
  | .bk r' => ∀ σ' H', SR K fa Hs Gs Bs Gl Bl r' S' σ' H' → D.bk σ' H'
  | .ct r' => ∀ σ' H', SR K fa Hs Gs Bs Gl Bl r' S' σ' H' → D.ct σ' H'
end
section
variable (K : PySem.W.Frag) (fa : Nat → Addr) (Hs Gs : Hp) (Bs : List Addr)
variable (P : Prg) (cf : Nat → List D → Sto → Option (D × Sto))
def AS (c : C) : TS := fun D σ H => ∃ r S o S', exS P cf c r S = some (o, S') ∧ ∃ Gl Bl, SR K fa Hs Gs Bs Gl Bl r S σ H ∧ ContS K fa Hs Gs Bs Gl Bl D S' o
def AB (c : List C) : TS := fun D σ H => ∃ r S o S', exB P cf c r S = some (o, S') ∧ ∃ Gl Bl, SR K fa Hs Gs Bs Gl Bl r S σ H ∧ ContS K fa Hs Gs Bs Gl Bl D S' o
def AF (e : E) : TE := fun σ H Q => ∃ r S ds S', evE P cf e r S = some (.lst ds, S') ∧ TF fa Hs K r S ds S' σ H Q
end
theorem _root_.L2.PS.wk {X : Cx} {st : Stmt} {t t' : TS} (h : PS X st t) (k : ∀ D σ H, t' D σ H → t D σ H) : PS X st t' := ⟨fun pins s σ H D I q => h.run pins s σ H D I (k D σ H q)⟩
theorem _root_.L2.PSs.wk {X : Cx} {st : List Stmt} {t t' : TS} (h : PSs X st t) (k : ∀ D σ H, t' D σ H → t D σ H) : PSs X st t' := ⟨fun pins s σ H D I q => h.run pins s σ H D I (k D σ H q)⟩

section
variable {P : Prg} {cf : Nat → List D → Sto → Option (D × Sto)} {fa : Nat → Addr} {Hs Gs Gl : Hp} {Bs Bl : List Addr} {X : Cx} {N : List Str} {sc : Scope}

theorem SF.a {x : Expr} {e : E} (h : SF P cf fa Hs X x e) : PE X x (AF X.K fa Hs P cf e) := ⟨fun pins s σ H Q I ⟨r, S, ds, S', hv, q⟩ => by
  obtain ⟨es, e1, h1⟩ := h r S _ S' hv
  cases e1
  exact h1.run pins s σ H Q I q⟩

variable (P cf fa Hs Gs Bs X) in
def SS (st : Stmt) (c : C) : Prop := PS X st (AS X.K fa Hs Gs Bs P cf c)
variable (P cf fa Hs Gs Bs X) in
def SSs (st : List Stmt) (c : List C) : Prop := PSs X st (AB X.K fa Hs Gs Bs P cf c)

theorem ss_set {st : Stmt} {i : Nat} {e : E} (hp : PS X st (tAsg (AE P cf fa Hs X.K e) (gName i))) : SS P cf fa Hs Gs Bs X st (.set i e) := by
  refine hp.wk fun D σ H ⟨r, S, o, S', hv, Gl, Bl, ⟨G, B, st0, R, RS⟩, q⟩ => ?_
  simp only [exS] at hv
  obtain ⟨⟨d, S1⟩, e1, hv⟩ := Option.bind_eq_some_iff.mp hv
  split at hv
  · cases hv
    exact ⟨r, S, d, _, e1, G, B, R, RS, fun v H' G' B' st1 rs dt => q _ _ ⟨G', B', st0.trans st1, (R.step st1).setv dt, rs⟩⟩
  · cases hv

theorem RelR.setm {K : PySem.W.Frag} {H0 : Hp} {r : Rho} {σ : Slots} {H G : Hp} {B : List Addr} {i : Nat} {v : V} {d : D} (R : RelR K fa H0 r σ H G B) (h : SlotOk K fa H0 H G B v true d)
    (hd : ∀ (j : Nat) (e : D), j ≠ i → r[j]? = some (some (true, e)) → σ[j]? ≠ some (some v)) : RelR K fa H0 (r.set i (some (true, d))) (σ.set i (some v)) H G B where
  len := by rw [List.length_set, List.length_set]; exact R.len
  at_ := fun j own e hj => by
    by_cases hi : i = j
    · subst hi
      have hl : i < r.length := by
        have := (List.getElem?_eq_some_iff.mp hj).1
        simpa using this
      rw [List.getElem?_set_self hl] at hj
      cases hj
      exact ⟨v, List.getElem?_set_self (by rw [← R.len]; exact hl), h⟩
    · rw [List.getElem?_set_ne hi] at hj ⊢
      exact R.at_ j own e hj
  dist := fun j l d' e' h1 h2 hn => by
    have sl : ∀ {k : Nat} {x : D}, (r.set i (some (true, d)))[k]? = some (some (true, x)) → k = i → (σ.set i (some v))[k]? = some (some v) := fun {k x} hk e => by
      subst e
      have hl : k < r.length := by
        have := (List.getElem?_eq_some_iff.mp hk).1
        simpa using this
      exact List.getElem?_set_self (by rw [← R.len]; exact hl)
    by_cases ji : j = i
    · have li : l ≠ i := fun z => hn (ji.trans z.symm)
      rw [sl h1 ji, List.getElem?_set_ne (Ne.symm li)]
      rw [List.getElem?_set_ne (Ne.symm li)] at h2
      exact (hd l e' li h2).symm
    · by_cases li : l = i
      · rw [sl h2 li, List.getElem?_set_ne (Ne.symm ji)]
        rw [List.getElem?_set_ne (Ne.symm ji)] at h1
        exact hd j d' ji h1
      · rw [List.getElem?_set_ne (Ne.symm ji), List.getElem?_set_ne (Ne.symm li)]
        rw [List.getElem?_set_ne (Ne.symm ji)] at h1
        rw [List.getElem?_set_ne (Ne.symm li)] at h2
        exact R.dist j l d' e' h1 h2 hn

theorem ss_own {st : Stmt} {i : Nat} {e : E} (hp : PS X st (tAsg (AF X.K fa Hs P cf e) (gName i))) : SS P cf fa Hs Gs Bs X st (.own i e) := by
  refine hp.wk fun D σ H ⟨r, S, o, S', hv, Gl, Bl, ⟨G, B, st0, R, RS⟩, q⟩ => ?_
  simp only [exS] at hv
  obtain ⟨⟨d, S1⟩, e1, hv⟩ := Option.bind_eq_some_iff.mp hv
  cases d <;> first | cases hv | skip
  rename_i ds
  have hv' : (if i < r.length then some (Out.nx (r.set i (some (true, .lst ds))), S1) else none) = some (o, S') := hv
  split at hv'
  · cases hv'
    refine ⟨r, S, ds, _, e1, G, B, R, RS, fun p vs H' G' B' hp st1 rs dt => q _ _ ⟨G', B', (st0.trans st1).trans (rs.layF hp).1, ?_, (rs.layF hp).2⟩⟩
    have R1 := (R.step st1).step (rs.layF (o := .lst vs) hp).1
    have hH0 : Hs p = none := by
      cases z : Hs p with
      | none => rfl
      | some u => exact absurd hp ((st0.trans st1).liv p (by rw [z]; simp))
    refine R1.setm ⟨p, vs, ds, rfl, rfl, upd_same, rs.nG hp, rs.nB hp, hH0, dt⟩ fun j x _ hj z => ?_
    obtain ⟨v, sv, ⟨a, ws, es, rfl, rfl, h1, _⟩⟩ := (R.step st1).at_ j true x hj
    rw [sv] at z
    cases z
    rw [hp] at h1; cases h1
  · cases hv'

theorem ss_unp {st : Stmt} {tg : Tg} {e : E} (hp : PS X st (tAsg (AE P cf fa Hs X.K e) (gTg X.K tg))) : SS P cf fa Hs Gs Bs X st (.unp tg e) := by
  refine hp.wk fun D σ H ⟨r, S, o, S', hv, Gl, Bl, ⟨G, B, st0, R, RS⟩, q⟩ => ?_
  simp only [exS] at hv
  obtain ⟨⟨d, S1⟩, e1, hv⟩ := Option.bind_eq_some_iff.mp hv
  obtain ⟨r1, e2, hv⟩ := Option.map_eq_some_iff.mp hv
  cases hv
  refine ⟨r, S, d, _, e1, G, B, R, RS, fun v H' G' B' st1 rs dt => ?_⟩
  exact asg_ok rs.sub tg d r r1 v σ _ e2 (R.step st1) dt fun σ' R' _ => q σ' H' ⟨G', B', st0.trans st1, R', rs⟩

/-- the arguments, whatever they are -/
def AA (P : Prg) (cf : Nat → List D → Sto → Option (D × Sto)) (fa : Nat → Addr) (H0 : Hp) (K : PySem.W.Frag) (es : List E) : TA := fun σ H Q => ∃ r S ds S', evEs P cf es r S = some (ds, S') ∧ TDs K fa H0 r S ds S' σ H Q
theorem SA.a {xs : List Expr} {es : List E} (h : SA P cf fa Hs X xs es) : PA X xs (AA P cf fa Hs X.K es) := ⟨fun pos pins s σ H Q I ⟨r, S, d, S', hv, q⟩ => (h r S d S' hv).run pos pins s σ H Q I q⟩

theorem ss_par2 {st : Stmt} {i j : Nat} {es : List E} (hp : PS X st (tPar i j (AA P cf fa Hs X.K es))) : SS P cf fa Hs Gs Bs X st (.par [i, j] es) := by
  refine hp.wk fun D σ H ⟨r, S, o, S', hv, Gl, Bl, ⟨G, B, st0, R, RS⟩, q⟩ => ?_
  simp only [exS] at hv
  obtain ⟨⟨ds, S1⟩, e1, hv⟩ := Option.bind_eq_some_iff.mp hv
  obtain ⟨r1, e2, hv⟩ := Option.map_eq_some_iff.mp hv
  cases hv
  refine ⟨r, S, ds, _, e1, G, B, R, RS, fun vs H' G' B' st1 rs dt => ?_⟩
  match ds, dt, e2 with
  | [d1, d2], dt, e2 =>
    obtain ⟨v1, _, rfl, t1, v2, _, rfl, t2, rfl⟩ := dt
    simp only [setAll] at e2
    split at e2
    · split at e2
      · cases e2
        exact ⟨v1, v2, rfl, q _ _ ⟨G', B', st0.trans st1, ((R.step st1).setv t1).setv t2, rs⟩⟩
      · cases e2
    · cases e2
  | [], dt, e2 => simp [setAll] at e2
  | [_], dt, e2 => simp [setAll] at e2
  | _ :: _ :: _ :: _, dt, e2 => simp [setAll] at e2
theorem ss_par3 {st : Stmt} {i j l : Nat} {es : List E} (hp : PS X st (tPar3 i j l (AA P cf fa Hs X.K es))) : SS P cf fa Hs Gs Bs X st (.par [i, j, l] es) := by
  refine hp.wk fun D σ H ⟨r, S, o, S', hv, Gl, Bl, ⟨G, B, st0, R, RS⟩, q⟩ => ?_
  simp only [exS] at hv
  obtain ⟨⟨ds, S1⟩, e1, hv⟩ := Option.bind_eq_some_iff.mp hv
  obtain ⟨r1, e2, hv⟩ := Option.map_eq_some_iff.mp hv
  cases hv
  refine ⟨r, S, ds, _, e1, G, B, R, RS, fun vs H' G' B' st1 rs dt => ?_⟩
  match ds, dt, e2 with
  | [d1, d2, d3], dt, e2 =>
    obtain ⟨v1, _, rfl, t1, v2, _, rfl, t2, v3, _, rfl, t3, rfl⟩ := dt
    simp only [setAll] at e2
    split at e2
    · split at e2
      · split at e2
        · cases e2
          exact ⟨v1, v2, v3, rfl, q _ _ ⟨G', B', st0.trans st1, (((R.step st1).setv t1).setv t2).setv t3, rs⟩⟩
        · cases e2
      · cases e2
    · cases e2
  | [], dt, e2 => simp [setAll] at e2
  | [_], dt, e2 => simp [setAll] at e2
  | [_, _], dt, e2 => simp [setAll] at e2
  | _ :: _ :: _ :: _ :: _, dt, e2 => simp [setAll] at e2

theorem pures_set {d : Pv.D} (h : d.pure = true) : ∀ (ds : List Pv.D) (j : Nat), pures ds = true → pures (ds.set j d) = true
  | [], _, _ => rfl
  | y :: ys, 0, f => by
    have f' : (y.pure && pures ys) = true := f
    rw [Bool.and_eq_true] at f'
    show (d.pure && pures ys) = true
    rw [h, f'.2]; rfl
  | y :: ys, j + 1, f => by
    have f' : (y.pure && pures ys) = true := f
    rw [Bool.and_eq_true] at f'
    show (y.pure && pures (ys.set j d)) = true
    rw [f'.1, pures_set h ys j f'.2]; rfl
theorem ss_put {st : Stmt} {a i e : E} (hp : PS X st (tAsg (AE P cf fa Hs X.K e) (gSub (AE P cf fa Hs X.K a) (AE P cf fa Hs X.K i) rSetL))) : SS P cf fa Hs Gs Bs X st (.put a i e) := by
  refine hp.wk fun D σ H ⟨r, S, o, S', hv, Gl, Bl, ⟨G, B, st0, R, RS⟩, q⟩ => ?_
  simp only [exS] at hv
  obtain ⟨⟨d, S1⟩, e1, hv⟩ := Option.bind_eq_some_iff.mp hv
  obtain ⟨⟨d2, S2⟩, e2, hv⟩ := Option.bind_eq_some_iff.mp hv
  obtain ⟨⟨d3, S3⟩, e3, hv⟩ := Option.bind_eq_some_iff.mp hv
  have key : ∃ n k, d2 = .ref n ∧ d3 = .int k := by
    cases d2 with
    | ref n =>
      cases d3 with
      | int k => exact ⟨n, k, rfl, rfl⟩
      | _ => cases hv
    | _ => cases hv
  obtain ⟨n, k, rfl, rfl⟩ := key
  obtain ⟨ds, e4, hv⟩ := Option.bind_eq_some_iff.mp (show (S3[n]?).bind _ = some (o, S') from hv)
  obtain ⟨j, e5, hv⟩ := Option.bind_eq_some_iff.mp hv
  split at hv
  · rename_i pu
    cases hv
    refine ⟨r, S, d, S1, e1, G, B, R, RS, fun v H1 G1 B1 st1 rs1 dt1 => ⟨r, S1, _, S2, e2, G1, B1, R.step st1, rs1, fun v2 H2 G2 B2 st2 rs2 dt2 => ⟨r, S2, _, S3, e3, G2, B2, (R.step st1).step st2, rs2, fun v3 H3 G3 B3 st3 rs3 dt3 => ?_⟩⟩⟩
    obtain ⟨p, rfl, hb⟩ := st3.dat dt2
    cases dt3
    obtain ⟨p', vs, f1, f2, f3, f4, f5⟩ := rs3.at_ n ds e4
    rw [hb] at f1; cases f1
    have dn := st3.dat (st2.dat dt1)
    have hpu : pures (ds.set j d) = true := pures_set pu ds j f5
    obtain ⟨st4, rs4⟩ := rs3.wr hb (Dats.set j f4 dn) hpu
    exact ⟨_, vs, k, j, rfl, rfl, f2, by rw [Dats.length _ _ f4]; exact e5, q _ _ ⟨G3, B3, (((st0.trans st1).trans st2).trans st3).trans st4, (((R.step st1).step st2).step st3).step st4, rs4⟩⟩
  · cases hv

theorem ss_aug {st : Stmt} {i : Nat} {op : Operator} {f : Int → Int → Int} {e : E} (hop : (op = .Add ∧ f = fun a b => a + b) ∨ (op = .Sub ∧ f = fun a b => a - b)) (hp : PS X st (tAug i (AE P cf fa Hs X.K e) (ipI f))) : SS P cf fa Hs Gs Bs X st (.aug i op e) := by
  refine hp.wk fun D σ H ⟨r, S, o, S', hv, Gl, Bl, ⟨G, B, st0, R, RS⟩, q⟩ => ?_
  simp only [exS] at hv
  split at hv
  · rename_i d hd
    obtain ⟨⟨d1, S1⟩, e1, hw⟩ := Option.bind_eq_some_iff.mp hv
    clear hv
    obtain ⟨v, sv, ok⟩ := R.at_ i false d hd
    have key : ∃ a b : Int, d = .int a ∧ d1 = .int b ∧ o = .nx (r.set i (some (false, .int (f a b)))) ∧ S' = S1 := by
      clear e1 ok sv hd q
      rcases hop with ⟨rfl, rfl⟩ | ⟨rfl, rfl⟩
      · cases d with
        | int a =>
          cases d1 with
          | int b => cases hw; exact ⟨a, b, rfl, rfl, rfl, rfl⟩
          | _ => cases hw
        | _ => cases hw
      · cases d with
        | int a =>
          cases d1 with
          | int b => cases hw; exact ⟨a, b, rfl, rfl, rfl, rfl⟩
          | _ => cases hw
        | _ => cases hw
    obtain ⟨a, b, rfl, rfl, rfl, rfl⟩ := key
    cases (show v = V.int a from ok)
    exact ⟨_, sv, r, S, _, _, e1, G, B, R, RS, fun v H' G' B' st1 rs dt => ⟨a, b, rfl, dt, q _ _ ⟨G', B', st0.trans st1, (R.step st1).setv (d := .int (f a b)) rfl, rs⟩⟩⟩
  · cases hv

theorem ss_exp {st : Stmt} {e : E} (hp : PS X st (tDrop (AE P cf fa Hs X.K e))) : SS P cf fa Hs Gs Bs X st (.exp e) := by
  refine hp.wk fun D σ H ⟨r, S, o, S', hv, Gl, Bl, ⟨G, B, st0, R, RS⟩, q⟩ => ?_
  simp only [exS] at hv
  obtain ⟨⟨d, S1⟩, e1, hv⟩ := Option.map_eq_some_iff.mp hv
  cases hv
  exact ⟨r, S, d, _, e1, G, B, R, RS, fun v H' G' B' st1 rs dt => q _ _ ⟨G', B', st0.trans st1, R.step st1, rs⟩⟩

/-- an owned list is written -/
theorem SR.wr3 {K : PySem.W.Frag} {r : Rho} {σ : Slots} {H G : Hp} {B : List Addr} {S : Sto} {i : Nat} {p : Addr} {ws : List V} {ds es : List D} (st0 : StF Hs Gs Bs Gl Bl H G B) (R : RelR K fa Hs r σ H G B) (RS : RelH K fa S H G B)
    (hi : r[i]? = some (some (true, .lst ds))) (sv : σ[i]? = some (some (.ref p))) (ok : SlotOk K fa Hs H G B (.ref p) true (.lst ds)) (dt : Dats K fa G B ws es) :
    StF Hs Gs Bs Gl Bl (upd H p (.lst ws)) G B ∧ RelR K fa Hs (r.set i (some (true, .lst es))) σ (upd H p (.lst ws)) G B ∧ RelH K fa S (upd H p (.lst ws)) G B := by
  obtain ⟨a, us, ds', ea, ed, h1, h2, h3, h4, h5⟩ := ok
  cases ea
  have stw : StF Hs Gs Bs Gl Bl (upd H p (.lst ws)) G B := st0.wrF h4
  have rsw := RS.wrF (o' := .lst ws) h1 h2 h3
  have hl : i < σ.length := (List.getElem?_eq_some_iff.mp sv).1
  refine ⟨stw, ?_, rsw⟩
  have R1 : RelR K fa Hs (r.set i none) σ (upd H p (.lst ws)) G B := by
    refine ⟨by rw [List.length_set]; exact R.len, fun j own d hj => ?_, fun j l d e hj hl' hn => ?_⟩
    · by_cases z : i = j
      · subst z
        rw [List.getElem?_set_self (by rw [R.len]; exact hl)] at hj
        cases hj
      · rw [List.getElem?_set_ne z] at hj
        obtain ⟨v, f1, f2⟩ := R.at_ j own d hj
        refine ⟨v, f1, ?_⟩
        cases own with
        | false => exact f2
        | true =>
          obtain ⟨b, xs, ys, rfl, rfl, g1, g2, g3, g4, g5⟩ := f2
          have nb : b ≠ p := fun w => by
            subst w
            exact R.dist i j _ _ hi hj z (sv.trans f1.symm)
          exact ⟨b, xs, ys, rfl, rfl, by rw [upd_ne nb]; exact g1, g2, g3, g4, g5⟩
    · have zj : i ≠ j := fun z => by
        subst z
        rw [List.getElem?_set_self (by rw [R.len]; exact hl)] at hj
        cases hj
      have zl : i ≠ l := fun z => by
        subst z
        rw [List.getElem?_set_self (by rw [R.len]; exact hl)] at hl'
        cases hl'
      rw [List.getElem?_set_ne zj] at hj
      rw [List.getElem?_set_ne zl] at hl'
      exact R.dist j l d e hj hl' hn
  have R2 := R1.setm (i := i) (v := .ref p) (d := .lst es) ⟨p, ws, es, rfl, rfl, upd_same, h2, h3, h4, dt⟩ fun j e hj he => by
    rw [List.getElem?_set_ne (Ne.symm hj)] at he
    rw [← sv]
    exact fun z => R.dist i j _ _ hi he (Ne.symm hj) z.symm
  rw [List.set_set] at R2
  have es' : σ.set i (some (.ref p)) = σ := by
    apply List.ext_getElem?
    intro k
    by_cases z : i = k
    · subst z; rw [List.getElem?_set_self hl, sv]
    · rw [List.getElem?_set_ne z]
  rw [es'] at R2
  exact R2
theorem SR.wr {K : PySem.W.Frag} {r : Rho} {σ : Slots} {H G : Hp} {B : List Addr} {S : Sto} {i : Nat} {p : Addr} {ws : List V} {ds es : List D} (st0 : StF Hs Gs Bs Gl Bl H G B) (R : RelR K fa Hs r σ H G B) (RS : RelH K fa S H G B)
    (hi : r[i]? = some (some (true, .lst ds))) (sv : σ[i]? = some (some (.ref p))) (ok : SlotOk K fa Hs H G B (.ref p) true (.lst ds)) (dt : Dats K fa G B ws es) :
    SR K fa Hs Gs Bs Gl Bl (r.set i (some (true, .lst es))) S σ (upd H p (.lst ws)) := ⟨G, B, SR.wr3 st0 R RS hi sv ok dt⟩

theorem ss_app {st : Stmt} {i : Nat} {e : E} (hp : PS X st (tDrop (tBM X.K "list" rAppend (tVar i) (tCons (AE P cf fa Hs X.K e) tNil)))) : SS P cf fa Hs Gs Bs X st (.app i e) := by
  refine hp.wk fun D σ H ⟨r, S, o, S', hv, Gl, Bl, ⟨G, B, st0, R, RS⟩, q⟩ => ?_
  simp only [exS] at hv
  obtain ⟨⟨d, S1⟩, e1, hv⟩ := Option.bind_eq_some_iff.mp hv
  split at hv
  · rename_i ds hd
    split at hv
    · rename_i c
      cases hv
      obtain ⟨v, sv, ok⟩ := R.at_ i true _ hd
      have ok0 := ok
      obtain ⟨a, vs, ds', rfl, ed, h1, h2, h3, h4, h5⟩ := ok
      cases ed
      refine ⟨_, sv, .inl ⟨rfl, vs, .of h1⟩, r, S, d, _, e1, G, B, R, RS, fun w H' G' B' st1 rs dt => ?_⟩
      have ok1 := ok0.step st1
      obtain ⟨b, us, es, eb, ee, g1, g2, g3, g4, g5⟩ := id ok1
      cases eb
      cases ee
      exact ⟨_, us, w, rfl, rfl, g1, by rw [Dats.length _ _ g5, sizeLine_eq]; omega, q _ _ (SR.wr (st0.trans st1) (R.step st1) rs hd sv ok1 (g5.app (Dats.one dt)))⟩
    · cases hv
  · cases hv
/-- x.insert(i, y) -/
def rIns : V → List V → Hp → VK → Prop := fun x vs H Q => ∃ (l : Addr) (xs : List V) (i : Int) (y : V), x = .ref l ∧ vs = [.int i, y] ∧ H l = some (.lst xs) ∧ xs.length < sizeLine ∧ 0 ≤ i ∧ i < 2 ^ 63 ∧
    Q .non (upd H l (.lst (xs.take i.toNat ++ [y] ++ xs.drop i.toNat)))
theorem ss_ins {st : Stmt} {i : Nat} {a b : E} (hp : PS X st (tDrop (tBM X.K "list" rIns (tVar i) (tCons (AE P cf fa Hs X.K a) (tCons (AE P cf fa Hs X.K b) tNil))))) : SS P cf fa Hs Gs Bs X st (.ins i a b) := by
  refine hp.wk fun D σ H ⟨r, S, o, S', hv, Gl, Bl, ⟨G, B, st0, R, RS⟩, q⟩ => ?_
  simp only [exS] at hv
  obtain ⟨⟨d1, S1⟩, e1, hv⟩ := Option.bind_eq_some_iff.mp hv
  obtain ⟨⟨d2, S2⟩, e2, hv⟩ := Option.bind_eq_some_iff.mp hv
  split at hv
  · rename_i ds k hd hk
    split at hv
    · rename_i c
      cases hv
      have hk' : d1 = .int k := hk
      subst hk'
      obtain ⟨v, sv, ok⟩ := R.at_ i true _ hd
      have ok0 := ok
      obtain ⟨p, vs, ds', rfl, ed, h1, h2, h3, h4, h5⟩ := ok
      cases ed
      refine ⟨_, sv, .inl ⟨rfl, vs, .of h1⟩, r, S, _, S1, e1, G, B, R, RS, fun w1 H1 G1 B1 st1 rs1 dt1 => ⟨r, S1, _, S2, e2, G1, B1, R.step st1, rs1, fun w2 H2 G2 B2 st2 rs2 dt2 => ?_⟩⟩
      have ok1 := (ok0.step st1).step st2
      obtain ⟨b', us, es, eb, ee, g1, g2, g3, g4, g5⟩ := id ok1
      cases eb
      cases ee
      have hw : w1 = .int k := dt1
      subst hw
      have hl := Dats.length _ _ g5
      have el : ds.take k.toNat ++ d2 :: ds.drop k.toNat = ds.take k.toNat ++ [d2] ++ ds.drop k.toNat := by simp
      rw [el] at q
      exact ⟨_, us, k, w2, rfl, rfl, g1, by rw [hl, sizeLine_eq]; omega, c.2.1, by have := c.2.2; have := c.1; omega, q _ _ (SR.wr ((st0.trans st1).trans st2) ((R.step st1).step st2) rs2 hd sv ok1 (((g5.take k.toNat).app (Dats.one dt2)).app (g5.drop k.toNat)))⟩
    · cases hv
  · cases hv
theorem ss_ext {st : Stmt} {i : Nat} {e : E} (hp : PS X st (tDrop (tBM X.K "list" rExtend (tVar i) (tCons (AE P cf fa Hs X.K e) tNil)))) : SS P cf fa Hs Gs Bs X st (.ext i e) := by
  refine hp.wk fun D σ H ⟨r, S, o, S', hv, Gl, Bl, ⟨G, B, st0, R, RS⟩, q⟩ => ?_
  simp only [exS] at hv
  obtain ⟨⟨d, S1⟩, e1, hv⟩ := Option.bind_eq_some_iff.mp hv
  split at hv
  · rename_i ds xs hd hx
    split at hv
    · rename_i c
      cases hv
      obtain ⟨v, sv, ok⟩ := R.at_ i true _ hd
      have ok0 := ok
      obtain ⟨a, vs, ds', rfl, ed, h1, h2, h3, h4, h5⟩ := ok
      cases ed
      refine ⟨_, sv, .inl ⟨rfl, vs, .of h1⟩, r, S, d, _, e1, G, B, R, RS, fun w H' G' B' st1 rs dt => ?_⟩
      have ok1 := ok0.step st1
      obtain ⟨b, us, es, eb, ee, g1, g2, g3, g4, g5⟩ := id ok1
      cases eb
      cases ee
      have hx' : d = .lst xs := hx
      subst hx'
      obtain ⟨b2, ws, rfl, f1, f2⟩ := dt
      exact ⟨_, b2, us, ws, rfl, rfl, g1, rs.sub _ _ f1, by rw [Dats.length _ _ g5, Dats.length _ _ f2, sizeLine_eq]; omega, q _ _ (SR.wr (st0.trans st1) (R.step st1) rs hd sv ok1 (g5.app f2))⟩
    · cases hv
  · cases hv

theorem ss_ite {st : Stmt} {c : E} {a b : List C} (hp : PS X st (tIfS (AT P cf fa Hs X.K c) (AB X.K fa Hs Gs Bs P cf a) (AB X.K fa Hs Gs Bs P cf b))) : SS P cf fa Hs Gs Bs X st (.ite c a b) := by
  refine hp.wk fun D σ H ⟨r, S, o, S', hv, Gl, Bl, ⟨G, B, st0, R, RS⟩, q⟩ => ?_
  simp only [exS] at hv
  obtain ⟨⟨d, S1⟩, e1, hv⟩ := Option.bind_eq_some_iff.mp hv
  cases d <;> first | cases hv | skip
  rename_i k
  refine ⟨r, S, k, S1, e1, G, B, R, RS, fun H' G' B' st1 rs => ?_⟩
  have sr : SR X.K fa Hs Gs Bs Gl Bl r S1 σ H' := ⟨G', B', st0.trans st1, R.step st1, rs⟩
  cases k with
  | true => exact iteT ⟨r, S1, o, S', hv, Gl, Bl, sr, q⟩
  | false => exact iteF ⟨r, S1, o, S', hv, Gl, Bl, sr, q⟩

theorem ss_ret {st : Stmt} {e : E} (hp : PS X st (tRet (AE P cf fa Hs X.K e))) : SS P cf fa Hs Gs Bs X st (.ret e) := by
  refine hp.wk fun D σ H ⟨r, S, o, S', hv, Gl, Bl, ⟨G, B, st0, R, RS⟩, q⟩ => ?_
  simp only [exS] at hv
  obtain ⟨⟨d, S1⟩, e1, hv⟩ := Option.map_eq_some_iff.mp hv
  cases hv
  exact ⟨r, S, d, _, e1, G, B, R, RS, fun v H' G' B' st1 rs dt => q v H' G' B' (st0.trans st1).1 rs dt⟩
theorem ss_pas {st : Stmt} (hp : PS X st tNext) : SS P cf fa Hs Gs Bs X st .pas := by
  refine hp.wk fun D σ H ⟨r, S, o, S', hv, Gl, Bl, sr, q⟩ => ?_
  simp only [exS] at hv
  cases hv
  exact q σ H sr
theorem ss_brk {st : Stmt} (hp : PS X st tBreak) : SS P cf fa Hs Gs Bs X st .brk := by
  refine hp.wk fun D σ H ⟨r, S, o, S', hv, Gl, Bl, sr, q⟩ => ?_
  simp only [exS] at hv
  cases hv
  exact q σ H sr
theorem ss_cnt {st : Stmt} (hp : PS X st tCont) : SS P cf fa Hs Gs Bs X st .cnt := by
  refine hp.wk fun D σ H ⟨r, S, o, S', hv, Gl, Bl, sr, q⟩ => ?_
  simp only [exS] at hv
  cases hv
  exact q σ H sr
theorem ss_bad {st : Stmt} : SS P cf fa Hs Gs Bs X st .bad := by
  refine ps_never.wk fun D σ H ⟨r, S, o, S', hv, Gl, Bl, sr, q⟩ => ?_
  simp only [exS] at hv
  cases hv

/-- owned lists become values -/
theorem SR.frz1 {K : PySem.W.Frag} {r : Rho} {σ : Slots} {H : Hp} {S : Sto} {i : Nat} {own : Bool} {d : D} (h : SR K fa Hs Gs Bs Gl Bl r S σ H) (hi : r[i]? = some (some (own, d))) : SR K fa Hs Gs Bs Gl Bl (r.set i (some (false, d))) S σ H := by
  obtain ⟨G, B, st0, R, RS⟩ := h
  obtain ⟨v, sv, ok⟩ := R.at_ i own d hi
  have hl : i < σ.length := (List.getElem?_eq_some_iff.mp sv).1
  have es' : σ.set i (some v) = σ := by
    apply List.ext_getElem?
    intro k
    by_cases z : i = k
    · subst z; rw [List.getElem?_set_self hl, sv]
    · rw [List.getElem?_set_ne z]
  cases own with
  | false =>
    have R2 := R.setv (i := i) (v := v) (d := d) ok
    rw [es'] at R2
    exact ⟨G, B, st0, R2, RS⟩
  | true =>
    obtain ⟨a, vs, ds, rfl, rfl, h1, h2, h3, h4, h5⟩ := ok
    have kG : ∀ b u, G b = some u → upd G a (.lst vs) b = some u := fun b u e => by rw [upd_ne (ne_of_none e h2)]; exact e
    have ne1 : ∀ b u, upd G a (.lst vs) b = some u → b ≠ a → G b = some u := fun b u e n => by rw [upd_ne n] at e; exact e
    have st1 : StF Hs Gs Bs Gl Bl H (upd G a (.lst vs)) B := ⟨⟨st0.1.keep, st0.1.liv, fun b u e => kG b u (st0.1.sub b u e), fun b u e => by
      by_cases n : b = a
      · subst n; exact .inr h4
      · exact st0.1.fr b u (ne1 b u e n), st0.1.pre⟩, fun b u e => kG b u (st0.2.1 b u e), st0.2.2⟩
    have rs1 : RelH K fa S H (upd G a (.lst vs)) B := ⟨fun b u e => by
      by_cases n : b = a
      · subst n; rw [upd_same] at e; cases e; exact h1
      · exact RS.sub b u (ne1 b u e n), RS.len, RS.nd, fun n ds' e => by
        obtain ⟨b, ws, f1, f2, f3, f4, f5⟩ := RS.at_ n ds' e
        have nb : b ≠ a := fun z => h3 (by rw [← z]; exact List.mem_of_getElem? f1)
        exact ⟨b, ws, f1, f2, by rw [upd_ne nb]; exact f3, Dats.up kG ⟨[], by simp⟩ _ _ f4, f5⟩⟩
    -- the other names
    have R1 : RelR K fa Hs (r.set i none) σ H (upd G a (.lst vs)) B := by
      refine ⟨by rw [List.length_set]; exact R.len, fun j own e hj => ?_, fun j l e f hj hl' hn => ?_⟩
      · by_cases z : i = j
        · subst z
          rw [List.getElem?_set_self (by rw [R.len]; exact hl)] at hj
          cases hj
        · rw [List.getElem?_set_ne z] at hj
          obtain ⟨v, f1, f2⟩ := R.at_ j own e hj
          refine ⟨v, f1, ?_⟩
          cases own with
          | false => exact Dat.up kG ⟨[], by simp⟩ _ _ f2
          | true =>
            obtain ⟨b, xs, ys, rfl, rfl, g1, g2, g3, g4, g5⟩ := f2
            have nb : b ≠ a := fun w => by
              subst w
              exact R.dist i j _ _ hi hj z (sv.trans f1.symm)
            exact ⟨b, xs, ys, rfl, rfl, g1, by rw [upd_ne nb]; exact g2, g3, g4, Dats.up kG ⟨[], by simp⟩ _ _ g5⟩
      · have zj : i ≠ j := fun z => by
          subst z
          rw [List.getElem?_set_self (by rw [R.len]; exact hl)] at hj
          cases hj
        have zl : i ≠ l := fun z => by
          subst z
          rw [List.getElem?_set_self (by rw [R.len]; exact hl)] at hl'
          cases hl'
        rw [List.getElem?_set_ne zj] at hj
        rw [List.getElem?_set_ne zl] at hl'
        exact R.dist j l e f hj hl' hn
    have R2 := R1.setv (i := i) (v := .ref a) (d := .lst ds) ⟨a, vs, rfl, upd_same, Dats.up kG ⟨[], by simp⟩ _ _ h5⟩
    rw [List.set_set, es'] at R2
    exact ⟨upd G a (.lst vs), B, st1, R2, rs1⟩
theorem SR.frz {K : PySem.W.Frag} {r : Rho} {σ : Slots} {H : Hp} {S : Sto} (h : SR K fa Hs Gs Bs Gl Bl r S σ H) : ∀ is : List Nat, SR K fa Hs Gs Bs Gl Bl (frzR r is) S σ H
  | [] => h
  | i :: is => by
    have ih := SR.frz h is
    unfold frzR
    split
    · rename_i own d e
      exact ih.frz1 e
    · exact ih
theorem ss_frz {st : Stmt} {is : List Nat} {c : C} (h : SS P cf fa Hs Gs Bs X st c) : SS P cf fa Hs Gs Bs X st (.frz is c) := by
  refine PS.wk h fun D σ H ⟨r, S, o, S', hv, Gl, Bl, sr, q⟩ => ?_
  simp only [exS] at hv
  exact ⟨frzR r is, S, o, S', hv, Gl, Bl, sr.frz is, q⟩

/-! two at once, some of them new lists; a list's item; a list that is lent -/
theorem RelR.setX {K : PySem.W.Frag} {H0 : Hp} {r : Rho} {σ : Slots} {H G H' G' : Hp} {B B' : List Addr} {i : Nat} {v : V} {own : Bool} {d : Pv.D} (R : RelR K fa H0 r σ H G B) (st : Stp H G B H' G' B') (h : SlotOk K fa H0 H' G' B' v own d)
    (fr : own = true → ∀ a, v = .ref a → H a = none) : RelR K fa H0 (r.set i (some (own, d))) (σ.set i (some v)) H' G' B' := by
  cases own with
  | false => exact (R.step st).setv h
  | true =>
    refine (R.step st).setm h fun j e _ he z => ?_
    obtain ⟨w, sw, ⟨a, ws, es, rfl, rfl, h1, _⟩⟩ := R.at_ j true e he
    rw [sw] at z
    cases z
    rw [fr rfl a rfl] at h1
    cases h1
/-- a value, or a new list that is owned -/
def AG (P : Prg) (cf : Nat → List Pv.D → Sto → Option (Pv.D × Sto)) (fa : Nat → Addr) (Hs : Hp) (K : PySem.W.Frag) : Bool → E → TE
  | false, e => AE P cf fa Hs K e
  | true, e => AF K fa Hs P cf e
theorem AG.go {K : PySem.W.Frag} {own : Bool} {e : E} {r : Rho} {S S1 : Sto} {d : Pv.D} {σ : Slots} {H G : Hp} {B : List Addr} {Q : VK} (hv : evE P cf e r S = some (d, S1)) (ho : okOwn own d = true) (R : RelR K fa Hs r σ H G B) (RS : RelH K fa S H G B) (hl : ∀ a, Hs a ≠ none → H a ≠ none)
    (q : ∀ v H1 G1 B1, Stp H G B H1 G1 B1 → RelH K fa S1 H1 G1 B1 → SlotOk K fa Hs H1 G1 B1 v own d → (own = true → ∀ a, v = .ref a → H a = none) → Q v H1) : AG P cf fa Hs K own e σ H Q := by
  cases own with
  | false => exact ⟨r, S, d, S1, hv, G, B, R, RS, fun v H' G' B' st rs dt => q v H' G' B' st rs dt fun z => nomatch z⟩
  | true =>
    cases d <;> first | cases ho | skip
    rename_i ds
    refine ⟨r, S, ds, S1, hv, G, B, R, RS, fun p vs H' G' B' hp st rs dt => ?_⟩
    have hH : H p = none := by
      cases z : H p with
      | none => rfl
      | some u => exact absurd hp (st.liv p (by rw [z]; simp))
    have hH0 : Hs p = none := by
      cases z : Hs p with
      | none => rfl
      | some u => exact absurd hH (hl p (by rw [z]; simp))
    obtain ⟨st2, rs2⟩ := rs.layF (o := .lst vs) hp
    exact q _ _ _ _ (st.trans st2) rs2 ⟨p, vs, ds, rfl, rfl, upd_same, rs.nG hp, rs.nB hp, hH0, dt⟩ fun _ a e => by cases e; exact hH
theorem ss_par2x {st : Stmt} {i j : Nat} {a b : Bool} {e f : E} (hp : PS X st (tPar i j (tCons (AG P cf fa Hs X.K a e) (tCons (AG P cf fa Hs X.K b f) tNil)))) : SS P cf fa Hs Gs Bs X st (.par2 i a e j b f) := by
  refine hp.wk fun D σ H ⟨r, S, o, S', hv, Gl, Bl, ⟨G, B, st0, R, RS⟩, q⟩ => ?_
  simp only [exS] at hv
  obtain ⟨⟨d1, S1⟩, e1, hv⟩ := Option.bind_eq_some_iff.mp hv
  obtain ⟨⟨d2, S2⟩, e2, hv⟩ := Option.bind_eq_some_iff.mp hv
  split at hv
  · rename_i c
    simp only [Bool.and_eq_true] at c
    cases hv
    refine AG.go e1 c.1.1 R RS st0.liv fun v1 H1 G1 B1 st1 rs1 ok1 fr1 => ?_
    have liv1 : ∀ a, Hs a ≠ none → H1 a ≠ none := fun a h => st1.liv a (st0.liv a h)
    refine AG.go e2 c.1.2 (R.step st1) rs1 liv1 fun v2 H2 G2 B2 st2 rs2 ok2 fr2 => ?_
    exact ⟨v1, v2, rfl, q _ _ ⟨G2, B2, (st0.trans st1).trans st2, (R.setX st1 ok1 fr1).setX st2 ok2 fr2, rs2⟩⟩
  · cases hv
theorem ss_puto {st : Stmt} {i : Nat} {k e : E} (hp : PS X st (tAsg (AE P cf fa Hs X.K e) (gSub (tVar i) (AE P cf fa Hs X.K k) rSetL))) : SS P cf fa Hs Gs Bs X st (.puto i k e) := by
  refine hp.wk fun D σ H ⟨r, S, o, S', hv, Gl, Bl, ⟨G, B, st0, R, RS⟩, q⟩ => ?_
  simp only [exS] at hv
  obtain ⟨⟨d1, S1⟩, e1, hv⟩ := Option.bind_eq_some_iff.mp hv
  obtain ⟨⟨d2, S2⟩, e2, hv⟩ := Option.bind_eq_some_iff.mp hv
  split at hv
  · rename_i ds t hd ht
    have ht' : d2 = .int t := ht
    subst ht'
    obtain ⟨j, e5, hv⟩ := Option.map_eq_some_iff.mp hv
    cases hv
    obtain ⟨v, sv, ok⟩ := R.at_ i true _ hd
    have ok0 := ok
    obtain ⟨p, vs, ds', rfl, ed, h1, h2, h3, h4, h5⟩ := ok
    cases ed
    refine ⟨r, S, d1, S1, e1, G, B, R, RS, fun w H1 G1 B1 st1 rs1 dt1 => ⟨_, sv, r, S1, _, S2, e2, G1, B1, R.step st1, rs1, fun w2 H2 G2 B2 st2 rs2 dt2 => ?_⟩⟩
    cases dt2
    have ok2 := (ok0.step st1).step st2
    obtain ⟨b', us, es, eb, ee, g1, g2, g3, g4, g5⟩ := id ok2
    cases eb
    cases ee
    exact ⟨_, us, t, j, rfl, rfl, g1, by rw [Dats.length _ _ g5]; exact e5, q _ _ (SR.wr ((st0.trans st1).trans st2) ((R.step st1).step st2) rs2 hd sv ok2 (Dats.set j g5 (st2.dat dt1)))⟩
  · cases hv
theorem pures_app : ∀ (a b : List Pv.D), pures a = true → pures b = true → pures (a ++ b) = true
  | [], _, _, h => h
  | x :: a, b, h, g => by
    have h' : (x.pure && pures a) = true := h
    rw [Bool.and_eq_true] at h'
    show (x.pure && pures (a ++ b)) = true
    rw [h'.1, pures_app a b h'.2 g]; rfl
theorem pures_take : ∀ (n : Nat) (a : List Pv.D), pures a = true → pures (a.take n) = true
  | 0, _, _ => rfl
  | n + 1, [], _ => rfl
  | n + 1, x :: a, h => by
    have h' : (x.pure && pures a) = true := h
    rw [Bool.and_eq_true] at h'
    show (x.pure && pures (a.take n)) = true
    rw [h'.1, pures_take n a h'.2]; rfl
theorem pures_drop : ∀ (n : Nat) (a : List Pv.D), pures a = true → pures (a.drop n) = true
  | 0, _, h => h
  | n + 1, [], _ => rfl
  | n + 1, x :: a, h => by
    have h' : (x.pure && pures a) = true := h
    rw [Bool.and_eq_true] at h'
    exact pures_drop n a h'.2
theorem ss_insr {st : Stmt} {i : Nat} {a b : E} (hp : PS X st (tDrop (tBM X.K "list" rIns (tVar i) (tCons (AE P cf fa Hs X.K a) (tCons (AE P cf fa Hs X.K b) tNil))))) : SS P cf fa Hs Gs Bs X st (.insr i a b) := by
  refine hp.wk fun D σ H ⟨r, S, o, S', hv, Gl, Bl, ⟨G, B, st0, R, RS⟩, q⟩ => ?_
  simp only [exS] at hv
  obtain ⟨⟨d1, S1⟩, e1, hv⟩ := Option.bind_eq_some_iff.mp hv
  obtain ⟨⟨d2, S2⟩, e2, hv⟩ := Option.bind_eq_some_iff.mp hv
  split at hv
  · rename_i n k hd hk
    obtain ⟨ds, e4, hv⟩ := Option.bind_eq_some_iff.mp hv
    split at hv
    · rename_i c
      cases hv
      have hk' : d1 = .int k := hk
      subst hk'
      obtain ⟨v, sv, ok⟩ := R.at_ i false _ hd
      obtain ⟨p, rfl, hb⟩ := (show Dat X.K fa G B v (.ref n) from ok)
      obtain ⟨vs0, h1, _⟩ := RS.Bsome (List.mem_of_getElem? hb)
      refine ⟨_, sv, .inl ⟨rfl, vs0, .of h1⟩, r, S, _, S1, e1, G, B, R, RS, fun w1 H1 G1 B1 st1 rs1 dt1 => ⟨r, S1, _, S2, e2, G1, B1, R.step st1, rs1, fun w2 H2 G2 B2 st2 rs2 dt2 => ?_⟩⟩
      have hw : w1 = .int k := dt1
      subst hw
      obtain ⟨p', ep, hb2⟩ := st2.dat (st1.dat (show Dat X.K fa G B (.ref p) (.ref n) from ⟨p, rfl, hb⟩))
      cases ep
      obtain ⟨p'', us, f1, f2, f3, f4, f5⟩ := rs2.at_ n ds e4
      rw [hb2] at f1; cases f1
      have hl := Dats.length _ _ f4
      have el : ds.take k.toNat ++ d2 :: ds.drop k.toNat = ds.take k.toNat ++ [d2] ++ ds.drop k.toNat := by simp
      rw [el] at q
      have hpu : pures (ds.take k.toNat ++ [d2] ++ ds.drop k.toNat) = true := by
        refine pures_app _ _ (pures_app _ _ (pures_take _ _ f5) ?_) (pures_drop _ _ f5)
        show (d2.pure && true) = true
        have := c.2.2.2
        rw [this]; rfl
      obtain ⟨st4, rs4⟩ := rs2.wr hb2 (((f4.take k.toNat).app (Dats.one dt2)).app (f4.drop k.toNat)) hpu
      exact ⟨_, us, k, w2, rfl, rfl, f2, by rw [hl, sizeLine_eq]; omega, c.2.1, by have := c.2.2.1; have := c.1; omega, q _ _ ⟨G2, B2, ((st0.trans st1).trans st2).trans st4, ((R.step st1).step st2).step st4, rs4⟩⟩
    · cases hv
  · cases hv

theorem RelH.lend {K : PySem.W.Frag} {H G : Hp} {B : List Addr} {S : Sto} {a : Addr} {vs : List V} {ds : List Pv.D} (R : RelH K fa S H G B) (h1 : H a = some (.lst vs)) (h2 : G a = none) (h3 : a ∉ B) (hd : Dats K fa G B vs ds) (hp : pures ds = true) : RelH K fa (S ++ [ds]) H G (B ++ [a]) := by
  refine ⟨R.sub, by simp [R.len], ?_, fun n es e => ?_⟩
  · exact List.nodup_append.mpr ⟨R.nd, by simp, fun x hx b hb => by
      have e : b = a := by simpa using hb
      subst e
      exact fun z => h3 (z ▸ hx)⟩
  · by_cases hn : n < S.length
    · rw [List.getElem?_append_left hn] at e
      obtain ⟨x, ws, e1, e2, e3, e4, e5⟩ := R.at_ n es e
      exact ⟨x, ws, by rw [List.getElem?_append_left (by rw [R.len]; exact hn)]; exact e1, e2, e3, Dats.up (fun _ _ q => q) ⟨[a], rfl⟩ es ws e4, e5⟩
    · rw [List.getElem?_append_right (by omega)] at e
      have hz : n - S.length = 0 := by
        cases q : n - S.length with
        | zero => rfl
        | succ m => rw [q] at e; simp at e
      rw [hz] at e
      have e' : ds = es := by simpa using e
      subst e'
      exact ⟨a, vs, by rw [List.getElem?_append_right (by rw [R.len]; omega), R.len, hz]; rfl, h1, h2, Dats.up (fun _ _ q => q) ⟨[a], rfl⟩ ds vs hd, hp⟩
theorem RelH.back {K : PySem.W.Frag} {H G : Hp} {B : List Addr} {S : Sto} {a : Addr} {ys : List Pv.D} (R : RelH K fa S H G (B ++ [a])) (hy : S[B.length]? = some ys) :
    RelH K fa (S.take B.length) H G B ∧ ∃ ws, H a = some (.lst ws) ∧ G a = none ∧ a ∉ B ∧ Dats K fa G B ws ys ∧ pures ys = true := by
  have hl := R.len
  rw [List.length_append, List.length_singleton] at hl
  obtain ⟨nB, _, nd⟩ := List.nodup_append.mp R.nd
  refine ⟨⟨R.sub, by rw [List.length_take]; omega, nB, fun n ds e => ?_⟩, ?_⟩
  · have hn : n < B.length := by
      have := (List.getElem?_eq_some_iff.mp e).1
      rw [List.length_take] at this
      omega
    rw [List.getElem?_take_of_lt hn] at e
    obtain ⟨x, ws, e1, e2, e3, e4, e5⟩ := R.at_ n ds e
    rw [List.getElem?_append_left hn] at e1
    exact ⟨x, ws, e1, e2, e3, Dats.nob ds ws e5 e4, e5⟩
  · obtain ⟨x, ws, e1, e2, e3, e4, e5⟩ := R.at_ _ ys hy
    rw [List.getElem?_append_right (Nat.le_refl _), Nat.sub_self] at e1
    have e1' : a = x := by simpa using e1
    subst e1'
    exact ⟨ws, e2, e3, fun z => nd _ z a (by simp) rfl, Dats.nob ys ws e5 e4, e5⟩
theorem StF.lend {H G H' G' : Hp} {B : List Addr} {a : Addr} (s : StF Hs Gs Bs Gl Bl H G B) (t : Stp H G (B ++ [a]) H' G' (B ++ [a])) (h : Hs a = none) : StF Hs Gs Bs Gl Bl H' G' B := by
  obtain ⟨⟨k1, k2, k3, k4, C, eC, hC⟩, f1, f2⟩ := s
  refine ⟨⟨fun x o hx nb => t.keep x o (k1 x o hx nb) fun z => ?_, fun x hx => t.liv x (k2 x hx), fun x o hx => t.sub x o (k3 x o hx), fun x o hx => ?_, C, eC, hC⟩, fun x o hx => t.sub x o (f1 x o hx), f2⟩
  · rcases List.mem_append.mp z with z | z
    · rw [eC] at z
      rcases List.mem_append.mp z with z | z
      · exact nb z
      · rw [hC x z] at hx; cases hx
    · have : x = a := by simpa using z
      subst this
      rw [h] at hx; cases hx
  · rcases t.fr x o hx with g | g
    · exact k4 x o g
    · right
      cases z : Hs x with
      | none => rfl
      | some u => exact absurd g (k2 x (by rw [z]; simp))
/-- a call whose first argument is an owned list -/
def AL (P : Prg) (cf : Nat → List Pv.D → Sto → Option (Pv.D × Sto)) (fa : Nat → Addr) (H0 : Hp) (K : PySem.W.Frag) (i j : Nat) (es : List E) : TE := fun σ H Q => ∃ r S ds S1 xs d S2 G B, evEs P cf es r S = some (ds, S1) ∧ r[i]? = some (some (true, .lst xs)) ∧ pures xs = true ∧ cf j (.ref S1.length :: ds) (S1 ++ [xs]) = some (d, S2) ∧
  RelR K fa H0 r σ H G B ∧ RelH K fa S H G B ∧ ∀ v a H1 G1 B1 H' G' B', σ[i]? = some (some (.ref a)) → Stp H G B H1 G1 B1 → RelH K fa S1 H1 G1 B1 → H0 a = none → Stp H1 G1 (B1 ++ [a]) H' G' B' → RelH K fa S2 H' G' B' → Q v H'
theorem s_lnd (W : Wd P cf fa X N sc) (ar : Arity P cf) {i j : Nat} {g : Fn} (hj : P.fns[j]? = some g) {es : List E} {y : Str} {xs : List Expr} {p py pos : Pos} (hg : L2.Gl X g.name) (hd : (g.name == ("__debug__" : Str)) = false)
    (hi : X.N[i]? = some y) (vis : Vis X.env.scope y) (y1 : (y == ("__debug__" : Str)) = false) (y2 : (y == ("__classdict__" : Str)) = false) (hxs : xs.all noStar = true) (ha : SA P cf fa Hs X xs es) : PE X (.Call (.Name g.name p) (.Name y py :: xs) [] pos) (AL P cf fa Hs X.K i j es) := by
  refine ⟨fun pins s σ H Q I ⟨r, S, ds, S1, zs, d, S2, G, B, e1, hr, hp, hc, R, RS, q⟩ => ?_⟩
  obtain ⟨v, sv, ok⟩ := R.at_ i true _ hr
  have ok0 := ok
  obtain ⟨a, vs, ds', rfl, ed, h1, h2, h3, h4, h5⟩ := ok
  cases ed
  have hst := star_of (X := X) (e := .Name y py) (es := xs) rfl
  refine wpAny_Call_Name_kw (ld_glob I hg (W.fnv j g hj).1 ?_ hd)
  refine PySem.W.callWith_K (h₀ := X.base) I.ok.mod.kin (W.fnv j g hj).2 (thn ((pa_cons (pe_var hi vis y1 y2) (ha r S _ _ e1) hst).run pos pins s σ H (fun vs H1 => ∃ ws G1 B1, vs = .ref a :: ws ∧ Stp H G B H1 G1 B1 ∧ RelH X.K fa S1 H1 G1 B1 ∧ Dats X.K fa G1 B1 ws ds) I
    ⟨_, sv, G, B, R, RS, fun ws H1 G1 B1 st rs dt => ⟨ws, G1, B1, rfl, st, rs, dt⟩⟩) fun us s1 ⟨vs', H1, I1, rv, ws, G1, B1, ev, st, rs, dt⟩ => ⟨I1.kIn, ?_⟩) hst (plain_of hxs)
  subst ev
  obtain ⟨b', us', es', eb, ee, g1, g2, g3, g4, g5⟩ := ok0.step st
  cases eb
  cases ee
  have rsL := rs.lend g1 g2 g3 g5 hp
  have dtL : Dats X.K fa G1 (B1 ++ [a]) (.ref a :: ws) (.ref S1.length :: ds) := ⟨_, _, rfl, ⟨a, rfl, by rw [← rs.len, List.getElem?_append_right (Nat.le_refl _), Nat.sub_self]; rfl⟩, Dats.up (fun _ _ z => z) ⟨[a], rfl⟩ ds ws dt⟩
  exact run_call W hj I1 rv rsL dtL hc (ar j g _ _ _ hj hc) fun v H' G' B' st2 rs2 _ => q v a H1 G1 B1 H' G' B' sv st rs h4 st2 rs2
theorem ss_lnd {st : Stmt} {i j : Nat} {es : List E} (hp : PS X st (tDrop (AL P cf fa Hs X.K i j es))) : SS P cf fa Hs Gs Bs X st (.lnd i j es) := by
  refine hp.wk fun D σ H ⟨r, S, o, S', hv, Gl, Bl, ⟨G, B, st0, R, RS⟩, q⟩ => ?_
  simp only [exS] at hv
  obtain ⟨⟨ds, S1⟩, e1, hv⟩ := Option.bind_eq_some_iff.mp hv
  split at hv
  · rename_i zs hd
    split at hv
    · rename_i hpu
      obtain ⟨⟨d, S2⟩, e2, hv⟩ := Option.bind_eq_some_iff.mp hv
      obtain ⟨ys, e3, hv⟩ := Option.bind_eq_some_iff.mp hv
      split at hv
      · rename_i hlen
        cases hv
        refine ⟨r, S, ds, S1, zs, d, S2, G, B, e1, hd, hpu, e2, R, RS, fun v a H1 G1 B1 H' G' B' sv st1 rs1 h4 st2 rs2 => q _ _ ?_⟩
        obtain ⟨C, eC, _⟩ := st2.pre
        have hC : C = [] := by
          have l1 := rs2.len
          have l2 := rs1.len
          have hl' : S2.length = S1.length + 1 := hlen
          rw [eC, List.length_append, List.length_append, List.length_singleton] at l1
          exact List.eq_nil_of_length_eq_zero (by omega)
        subst hC
        rw [List.append_nil] at eC
        subst eC
        have e3' : S2[B1.length]? = some ys := by rw [rs1.len]; exact e3
        obtain ⟨rs3, ws, g1, g2, g3, g5, _⟩ := rs2.back e3'
        rw [rs1.len] at rs3
        have R1 := R.step st1
        refine ⟨G', B1, (st0.trans st1).lend st2 h4, ?_, rs3⟩
        have hl : i < σ.length := (List.getElem?_eq_some_iff.mp sv).1
        have R2 : RelR X.K fa Hs (r.set i none) σ H' G' B1 := by
          refine ⟨by rw [List.length_set]; exact R.len, fun k own e hk => ?_, fun k l e f hk hl' hn => ?_⟩
          · by_cases z : i = k
            · subst z
              rw [List.getElem?_set_self (by rw [R.len]; exact hl)] at hk
              cases hk
            · rw [List.getElem?_set_ne z] at hk
              obtain ⟨v, f1, f2⟩ := R1.at_ k own e hk
              refine ⟨v, f1, ?_⟩
              cases own with
              | false => exact Dat.up st2.sub ⟨[], by simp⟩ _ _ f2
              | true =>
                obtain ⟨b, xs, ys', rfl, rfl, k1, k2, k3, k4, k5⟩ := f2
                have nb : b ≠ a := fun w => by
                  subst w
                  exact R.dist i k _ _ hd hk z (sv.trans f1.symm)
                refine ⟨b, xs, ys', rfl, rfl, st2.keep b _ k1 (fun w => ?_), ?_, k3, k4, Dats.up st2.sub ⟨[], by simp⟩ _ _ k5⟩
                · rcases List.mem_append.mp w with w | w
                  · exact k3 w
                  · exact nb (by simpa using w)
                · cases w : G' b with
                  | none => rfl
                  | some u =>
                    rcases st2.fr b u w with w | w
                    · rw [k2] at w; cases w
                    · rw [k1] at w; cases w
          · have zj : i ≠ k := fun z => by
              subst z
              rw [List.getElem?_set_self (by rw [R.len]; exact hl)] at hk
              cases hk
            have zl : i ≠ l := fun z => by
              subst z
              rw [List.getElem?_set_self (by rw [R.len]; exact hl)] at hl'
              cases hl'
            rw [List.getElem?_set_ne zj] at hk
            rw [List.getElem?_set_ne zl] at hl'
            exact R.dist k l e f hk hl' hn
        have R3 := R2.setm (i := i) (v := .ref a) (d := .lst ys) ⟨a, ws, ys, rfl, rfl, g1, g2, g3, h4, g5⟩ fun k e hk he => by
          rw [List.getElem?_set_ne (Ne.symm hk)] at he
          rw [← sv]
          exact fun z => R.dist i k _ _ hd he (Ne.symm hk) z.symm
        rw [List.set_set] at R3
        have es' : σ.set i (some (.ref a)) = σ := by
          apply List.ext_getElem?
          intro k
          by_cases z : i = k
          · subst z; rw [List.getElem?_set_self hl, sv]
          · rw [List.getElem?_set_ne z]
        rw [es'] at R3
        exact R3
      · cases hv
    · cases hv
  · cases hv

/-! x.append(y.pop(e)); tg = y.pop() -/
theorem ixN_bounds {n : Nat} {i : Int} {t : Nat} (h : L2.ixN n i = some t) (hn : n < 100000) : -(2 ^ 63) ≤ i ∧ i < 2 ^ 63 := by
  obtain ⟨_, _, h1, h2⟩ := L2.ixN_seq h
  omega
theorem Dats.eraseIdx {K : PySem.W.Frag} {G : Hp} {B : List Addr} : ∀ {ds : List Pv.D} {vs : List V} (t : Nat), Dats K fa G B vs ds → Dats K fa G B (vs.eraseIdx t) (ds.eraseIdx t)
  | [], _, _, h => by cases h; rfl
  | d :: ds, _, 0, h => by
    obtain ⟨v, r, rfl, h1, h2⟩ := h
    exact h2
  | d :: ds, _, t + 1, h => by
    obtain ⟨v, r, rfl, h1, h2⟩ := h
    exact ⟨v, _, rfl, h1, Dats.eraseIdx t h2⟩
theorem Dats.dropLast {K : PySem.W.Frag} {G : Hp} {B : List Addr} {ds : List Pv.D} {vs : List V} (h : Dats K fa G B vs ds) : Dats K fa G B vs.dropLast ds.dropLast := by
  rw [List.dropLast_eq_take, List.dropLast_eq_take, Dats.length _ _ h]
  exact h.take _
theorem ss_apop {st : Stmt} {i j : Nat} {e : E} (hp : PS X st (tDrop (tBM X.K "list" rAppend (tVar i) (tCons (tBM X.K "list" rPopAt (tVar j) (tCons (AE P cf fa Hs X.K e) tNil)) tNil)))) : SS P cf fa Hs Gs Bs X st (.apop i j e) := by
  refine hp.wk fun D σ H ⟨r, S, o, S', hv, Gl, Bl, ⟨G, B, st0, R, RS⟩, q⟩ => ?_
  simp only [exS] at hv
  obtain ⟨⟨d1, S1⟩, e1, hv⟩ := Option.bind_eq_some_iff.mp hv
  split at hv
  · rename_i ds ys k hi hj hk
    have hk' : d1 = .int k := hk
    subst hk'
    obtain ⟨t, e5, hv⟩ := Option.bind_eq_some_iff.mp hv
    obtain ⟨d, e6, hv⟩ := Option.bind_eq_some_iff.mp hv
    split at hv
    · rename_i c
      cases hv
      obtain ⟨hne, hd1, hd2⟩ := c
      obtain ⟨v, sv, ok⟩ := R.at_ i true _ hi
      have ok0 := ok
      obtain ⟨p, vs, ds', rfl, ed, h1, h2, h3, h4, h5⟩ := ok
      cases ed
      obtain ⟨v', sv', ok'⟩ := R.at_ j true _ hj
      have ok0' := ok'
      obtain ⟨p', vs', ys', rfl, ed', h1', h2', h3', h4', h5'⟩ := ok'
      cases ed'
      refine ⟨_, sv, .inl ⟨rfl, vs, .of h1⟩, _, sv', .inl ⟨rfl, vs', .of h1'⟩, r, S, _, S1, e1, G, B, R, RS, fun w H1 G1 B1 st1 rs1 dt1 => ?_⟩
      have hw : w = .int k := dt1
      subst hw
      have ok1 := ok0'.step st1
      obtain ⟨b', us, es, eb, ee, g1, g2, g3, g4, g5⟩ := id ok1
      cases eb
      cases ee
      have lu := Dats.length _ _ g5
      have e5' : L2.ixN us.length k = some t := by rw [lu]; exact e5
      obtain ⟨y, hy, dy⟩ := Dats.get g5 e6
      obtain ⟨bd1, bd2⟩ := ixN_bounds e5 hd2
      refine ⟨_, us, k, t, y, rfl, rfl, g1, bd1, bd2, (L2.ixN_seq e5').1, hy, ?_⟩
      obtain ⟨st2, R2, rs2⟩ := SR.wr3 (st0.trans st1) (R.step st1) rs1 hj sv' ok1 (Dats.eraseIdx t g5)
      have hi2 : (r.set j (some (true, Pv.D.lst (ys.eraseIdx t))))[i]? = some (some (true, .lst ds)) := by
        rw [List.getElem?_set_ne (Ne.symm hne)]
        exact hi
      obtain ⟨v2, sv2, ok2⟩ := R2.at_ i true _ hi2
      have ev : v2 = .ref p := by
        rw [sv] at sv2
        injection sv2 with sv2
        injection sv2 with sv2
        exact sv2.symm
      subst ev
      obtain ⟨b2, us2, es2, eb2, ee2, k1, k2, k3, k4, k5⟩ := id ok2
      cases eb2
      cases ee2
      exact ⟨_, us2, y, rfl, rfl, k1, by rw [Dats.length _ _ k5, sizeLine_eq]; omega, q _ _ (SR.wr st2 R2 rs2 hi2 sv ok2 (k5.app (Dats.one dy)))⟩
    · cases hv
  · cases hv
theorem ss_spop {st : Stmt} {tg : Tg} {j : Nat} (hp : PS X st (tAsg (tBM0 X.K "list" rPop (tVar j)) (gTg X.K tg))) : SS P cf fa Hs Gs Bs X st (.spop tg j) := by
  refine hp.wk fun D σ H ⟨r, S, o, S', hv, Gl, Bl, ⟨G, B, st0, R, RS⟩, q⟩ => ?_
  simp only [exS] at hv
  split at hv
  · rename_i ys hj
    obtain ⟨d, e6, hv⟩ := Option.bind_eq_some_iff.mp hv
    obtain ⟨r1, e7, hv⟩ := Option.map_eq_some_iff.mp hv
    cases hv
    obtain ⟨v, sv, ok⟩ := R.at_ j true _ hj
    have ok0 := ok
    obtain ⟨p, vs, ds', rfl, ed, h1, h2, h3, h4, h5⟩ := ok
    cases ed
    have lv := Dats.length _ _ h5
    obtain ⟨y, hy, dy⟩ := Dats.get h5 e6
    obtain ⟨st2, R2, rs2⟩ := SR.wr3 st0 R RS hj sv ok0 (Dats.dropLast h5)
    refine ⟨_, sv, .inl ⟨rfl, vs, .of h1⟩, _, vs, y, rfl, rfl, h1, by rw [lv]; exact hy, ?_⟩
    exact asg_ok rs2.sub tg d _ r1 y σ _ e7 R2 dy fun σ' R' _ => q σ' _ ⟨G, B, st2, R', rs2⟩
  · cases hv

/-! blocks -/
theorem sb_nil : SSs P cf fa Hs Gs Bs X [] [] := by
  refine pss_nil.wk fun D σ H ⟨r, S, o, S', hv, Gl, Bl, sr, q⟩ => ?_
  simp only [exB] at hv
  cases hv
  exact q σ H sr
theorem sb_cons {st : Stmt} {sts : List Stmt} {c : C} {cs : List C} (h1 : SS P cf fa Hs Gs Bs X st c) (h2 : SSs P cf fa Hs Gs Bs X sts cs) : SSs P cf fa Hs Gs Bs X (st :: sts) (c :: cs) := by
  refine (pss_cons h1 h2).wk fun D σ H ⟨r, S, o, S', hv, Gl, Bl, sr, q⟩ => ?_
  simp only [exB] at hv
  obtain ⟨⟨o1, S1⟩, e1, hv⟩ := Option.bind_eq_some_iff.mp hv
  refine ⟨r, S, o1, S1, e1, Gl, Bl, sr, ?_⟩
  cases o1 with
  | nx r1 => exact fun σ' H' sr' => ⟨r1, S1, o, S', hv, Gl, Bl, sr', q⟩
  | rt d => cases hv; exact q
  | bk r1 => cases hv; exact q
  | ct r1 => cases hv; exact q

/-! loops -/
theorem ss_for {st : Stmt} {tg : Tg} {it : E} {b : List C} (hp : PS X st (tFor (AI P cf fa Hs X.K it) (gTg X.K tg) (AB X.K fa Hs Gs Bs P cf b))) : SS P cf fa Hs Gs Bs X st (.for_ tg it b) := by
  refine hp.wk fun D σ H ⟨r, S, o, S', hv, Gl, Bl, ⟨G, B, st0, R, RS⟩, q⟩ => ?_
  simp only [exS] at hv
  obtain ⟨⟨d, S1⟩, e1, hv⟩ := Option.bind_eq_some_iff.mp hv
  obtain ⟨xs, e2, hv⟩ := Option.bind_eq_some_iff.mp hv
  refine ⟨r, S, d, S1, xs, G, B, e1, e2, R, RS, fun J H1 G1 B1 st1 rs1 Y => ?_⟩
  have fl : Flo Gl Bl G1 B1 := (st0.trans st1).2
  have lift : ∀ {r2 : Rho} {S2 : Sto} {σ2 : Slots} {H2 : Hp}, SR X.K fa Hs Gs Bs G1 B1 r2 S2 σ2 H2 → SR X.K fa Hs Gs Bs Gl Bl r2 S2 σ2 H2 := fun {r2 S2 σ2 H2} ⟨G2, B2, s2, R2, rs2⟩ =>
    ⟨G2, B2, ⟨s2.1, fun a u e => s2.2.1 a u (fl.1 a u e), by
      obtain ⟨C1, rfl⟩ := fl.2
      obtain ⟨C2, rfl⟩ := s2.2.2
      exact ⟨C1 ++ C2, by simp⟩⟩, R2, rs2⟩
  refine ⟨fun i m σ H => m = xs.length - i ∧ i ≤ xs.length ∧ ∃ r2 S2, SR X.K fa Hs Gs Bs G1 B1 r2 S2 σ H ∧ forL tg (fun r1 S1 => exB P cf b r1 S1) (xs.drop i) r2 S2 = some (o, S'),
    ⟨xs.length, by simp, Nat.zero_le _, r, S1, ⟨G1, B1, ⟨(st0.trans st1).1, fun _ _ h => h, [], by simp⟩, R.step st1, rs1⟩, by simpa using hv⟩, ?_⟩
  rintro i m σ2 H2 ⟨rfl, hi, r2, S2, ⟨G2, B2, st2, R2, rs2⟩, hf⟩
  have y := Y H2 G2 B2 st2.2.1 st2.2.2 rs2.sub i
  by_cases hlt : i < xs.length
  · have hx : xs[i]? = some xs[i] := by simp [hlt]
    obtain ⟨hgo, hy⟩ := y.1 _ hx
    have hdr : xs.drop i = xs[i] :: xs.drop (i + 1) := List.drop_eq_getElem_cons hlt
    rw [hdr] at hf
    simp only [forL] at hf
    obtain ⟨r3, e3, hf⟩ := Option.bind_eq_some_iff.mp hf
    obtain ⟨⟨o4, S4⟩, e4, hf⟩ := Option.bind_eq_some_iff.mp hf
    refine .inr ⟨hgo, fun σ5 H5 => ∃ r5, (o4 = .nx r5 ∨ o4 = .ct r5) ∧ SR X.K fa Hs Gs Bs G1 B1 r5 S4 σ5 H5, fun σ5 H5 ⟨r5, ho, sr5⟩ => ⟨xs.length - (i + 1), by omega, rfl, hlt, r5, S4, sr5, ?_⟩, fun x H3 hyl => ?_⟩
    · rcases ho with rfl | rfl <;> exact hf
    · obtain ⟨G3, dx, stp⟩ := hy x H3 hyl
      obtain ⟨st3, rs3⟩ := stp S2 rs2
      refine asg_ok rs3.sub tg _ _ r3 x σ2 _ e3 (R2.step st3) dx fun σ4 R4 _ => ?_
      refine ⟨r3, S2, o4, S4, e4, G1, B1, ⟨G3, B2, st2.trans st3, R4, rs3⟩, ?_⟩
      cases o4 with
      | nx r5 => exact fun σ5 H5 sr5 => ⟨r5, .inl rfl, sr5⟩
      | ct r5 => exact fun σ5 H5 sr5 => ⟨r5, .inr rfl, sr5⟩
      | bk r5 => cases hf; exact fun σ5 H5 sr5 => q σ5 H5 (lift sr5)
      | rt d5 => cases hf; exact q
  · have e : i = xs.length := by omega
    subst e
    rw [List.drop_length] at hf
    simp only [forL] at hf
    cases hf
    exact .inl ⟨y.2 (Nat.le_refl _), q σ2 H2 (lift ⟨G2, B2, st2, R2, rs2⟩)⟩
theorem ss_whl {st : Stmt} {c : E} {b : List C} (hp : PS X st (tWhile (AT P cf fa Hs X.K c) (AB X.K fa Hs Gs Bs P cf b))) : SS P cf fa Hs Gs Bs X st (.whl c b) := by
  refine hp.wk fun D σ H ⟨r, S, o, S', hv, Gl, Bl, sr0, q⟩ => ?_
  simp only [exS] at hv
  generalize most = n at hv
  refine ⟨fun m σ H => ∃ r2 S2, SR X.K fa Hs Gs Bs Gl Bl r2 S2 σ H ∧ whl (fun r1 S1 => evE P cf c r1 S1) (fun r1 S1 => exB P cf b r1 S1) m r2 S2 = some (o, S'), ⟨n, r, S, sr0, hv⟩, ?_⟩
  rintro m σ2 H2 ⟨r2, S2, ⟨G2, B2, st2, R2, rs2⟩, hf⟩
  cases m with
  | zero => simp only [whl] at hf; cases hf
  | succ m =>
    simp only [whl] at hf
    obtain ⟨⟨d, S3⟩, e3, hf⟩ := Option.bind_eq_some_iff.mp hf
    cases d <;> first | cases hf | skip
    rename_i k
    refine ⟨r2, S2, k, S3, e3, G2, B2, R2, rs2, fun H3 G3 B3 st3 rs3 => ?_⟩
    have sr3 : SR X.K fa Hs Gs Bs Gl Bl r2 S3 σ2 H3 := ⟨G3, B3, st2.trans st3, R2.step st3, rs3⟩
    cases k with
    | false =>
      cases hf
      exact iteF (q σ2 H3 sr3)
    | true =>
      obtain ⟨⟨o4, S4⟩, e4, hf⟩ := Option.bind_eq_some_iff.mp (show (exB P cf b r2 S3).bind _ = some (o, S') from hf)
      refine iteT ⟨fun σ5 H5 => ∃ r5, (o4 = .nx r5 ∨ o4 = .ct r5) ∧ SR X.K fa Hs Gs Bs Gl Bl r5 S4 σ5 H5, fun σ5 H5 ⟨r5, ho, sr5⟩ => ⟨m, Nat.lt_succ_self _, r5, S4, sr5, ?_⟩, ⟨r2, S3, o4, S4, e4, Gl, Bl, sr3, ?_⟩⟩
      · rcases ho with rfl | rfl <;> exact hf
      · cases o4 with
        | nx r5 => exact fun σ5 H5 sr5 => ⟨r5, .inl rfl, sr5⟩
        | ct r5 => exact fun σ5 H5 sr5 => ⟨r5, .inr rfl, sr5⟩
        | bk r5 => cases hf; exact q
        | rt d5 => cases hf; exact q
end
end Pv

set_option Elab.async false
set_option linter.all false
set_option maxRecDepth 100000
/-! SndM: the text against the small language, expressions: a check by computing, and its soundness. -/
namespace Pv
open PySem PySem.Spec PyProof.Rows L2

def isVis (sc : Scope) (x : Str) : Bool := match sc.names.lookup x with
  | some .local => true
  | some .cell => true
  | some .free => true
  | _ => false
def isGl (sc : Scope) (x : Str) : Bool := decide (sc.names.lookup x = some .globalImplicit)
def okNm (x : Str) : Bool := !(x == ("__debug__" : Str)) && !(x == ("__classdict__" : Str))
def nmOk (N : List Str) (sc : Scope) (i : Nat) (x : Str) : Bool := decide (N[i]? = some x) && isVis sc x && okNm x
def glOk (sc : Scope) (n x : Str) : Bool := decide (n = x) && isGl sc x && okNm x
def isTupX : Expr → Bool
  | .Tuple _ _ _ => true
  | _ => false
def isSetX : Expr → Bool
  | .Set _ _ _ => true
  | _ => false
mutual
def mTg (c : Bool) (N : List Str) (sc : Scope) : Tg → Expr → Bool
  | .nm i, .Name x _ => decide (N[i]? = some x) && (decide (sc.names.lookup x = some .local) || (c && decide (sc.names.lookup x = some .cell)))
  | .tp ts, .Tuple es _ _ => mTgs c N sc ts es
  | _, _ => false
def mTgs (c : Bool) (N : List Str) (sc : Scope) : List Tg → List Expr → Bool
  | [], [] => true
  | t :: ts, e :: es => noStar e && mTg c N sc t e && mTgs c N sc ts es
  | _, _ => false
end
def ownNm (N : List Str) (own : List Nat) : List (Str × Nat) := own.map fun i => (N.getD i Str.empty, i)
def biNm : Bi → Option String
  | .abs => some "abs"
  | .len => some "len"
  | .all => some "all"
  | .any => some "any"
  | .sum => some "sum"
  | .repr => some "repr"
  | .tuple => some "tuple"
  | .list => some "list"
  | .int => some "int"
  | _ => none
/-- list(range(..)) -/
def isLR : Bi → E → Bool
  | .list, .rng _ => true
  | _, _ => false
def mmNm : Bi → Option String
  | .max2 => some "max"
  | .min2 => some "min"
  | _ => none

mutual
/-- m: 0 a value, 1 a value that is only read, 2 what is walked, 3 what is walked by a target of several names -/
def mE (P : Prg) (N : List Str) (m : Nat) (sc : Scope) : E → Expr → Bool
  | .cst d, x => match d, x with
    | .int i, .Constant (.int j) _ _ => decide (i = j)
    | .bl i, .Constant (.bool j) _ _ => decide (i = j)
    | .non, .Constant .none _ _ => true
    | .str i, .Constant (.str j) _ _ => decide (i = j)
    | _, _ => false
  | .var i, .Name x _ => nmOk N sc i x
  | .bor i, .Name x _ => decide (m = 1) && nmOk N sc i x
  | .glb j, .Name x _ => match P.csts[j]? with
    | some p => glOk sc p.1 x
    | none => false
  | .fnv j, .Name x _ => match P.fns[j]? with
    | some g => glOk sc g.name x
    | none => false
  | .bin op a b, .BinOp xa op' xb _ => decide (op = op') && mE P N 1 sc a xa && mE P N 1 sc b xb
  | .neg a, .UnaryOp .USub xa _ => mE P N 0 sc a xa
  | .not a, .UnaryOp .Not xa _ => mE P N 0 sc a xa
  | .and a b, .BoolOp .And (xa :: xb :: xs) p => mE P N 0 sc a xa && (match xs with
    | [] => mE P N 0 sc b xb
    | xc :: r => mE P N 0 sc b (.BoolOp .And (xb :: xc :: r) p))
  | .or a b, .BoolOp .Or (xa :: xb :: xs) p => mE P N 0 sc a xa && (match xs with
    | [] => mE P N 0 sc b xb
    | xc :: r => mE P N 0 sc b (.BoolOp .Or (xb :: xc :: r) p))
  | .cmp op a b, .Compare xa [op'] [xb] _ => decide (op = op') && mE P N 1 sc a xa && mE P N 1 sc b xb && !behindInMarks op xb
  | .chn op op2 a b c, .Compare xa [o1, o2] [xb, xc] _ => decide (op = o1) && decide (op2 = o2) && mE P N 0 sc a xa && mE P N 0 sc b xb && mE P N 0 sc c xc && !lastMarks [op, op2] [xb, xc]
  | .ite c a b, .IfExp xc xa xb _ => mE P N 0 sc c xc && mE P N 0 sc a xa && mE P N 0 sc b xb
  | .tup es, .Tuple xs _ _ => mEs P N sc es xs
  | .lst es, .List xs _ => mEs P N sc es xs
  | .box es, .List xs _ => mEs P N sc es xs
  | .idx a i, .Subscript xa xi _ => mE P N 1 sc a xa && mE P N 0 sc i xi && okIx xi
  | .slc a lo hi, .Subscript xa (.Slice xl xh none _) _ => mE P N 1 sc a xa && mO P N sc lo xl && mO P N sc hi xh
  | .rev a, .Subscript xa (.Slice none none (some (.UnaryOp .USub (.Constant (.int i) _ _) _)) _) _ => decide (i = 1) && mE P N 1 sc a xa
  | .call f es, .Call (.Name x _) xs [] _ => match P.fns[f]? with
    | some g => glOk sc g.name x && xs.all noStar && mEs P N sc es xs
    | none => false
  | .callk q es ks, .Call (.Name x _) xs kws _ => match P.kws[q]? with
    | some w => match P.fns[w.f]? with
      | some g => glOk sc g.name x && xs.all noStar && decide (kws.map (·.arg) = w.ks.map some) && mEs P N sc es xs && mKs P N sc ks kws
      | none => false
    | none => false
  | .callv f es, .Call (.Name x _) (x0 :: xs) [] _ => (match f with
    | .var i => nmOk N sc i x
    | _ => false) && noStar x0 && xs.all noStar && mEs P N sc es (x0 :: xs)
  | .bits a, .Call (.Attribute xa n ap) [] [] p => decide (n = "bit_length") && mE P N 0 sc a xa && plainBase xa && (ap.endLine == p.line)
  | .bi b [e], .Call (.Name x _) [xe] [] _ => (match biNm b with
      | some nm => decide ((nm : Str) = x)
      | none => false) && isGl sc x && noStar xe && (if isLR b e then mE P N 2 sc e xe else mE P N 1 sc e xe)
  | .bi b [e], .Call (.Name x _) [xe, .Name T _] [] _ => (match isId b with
      | some nm => decide ((nm : Str) = T)
      | none => false) && decide (x = "isinstance") && isGl sc x && isGl sc T && noStar xe && mE P N 1 sc e xe
  | .bi b [e1, e2], .Call (.Name x _) [x1, x2] [] _ => (match mmNm b with
      | some nm => decide ((nm : Str) = x)
      | none => false) && isGl sc x && noStar x1 && noStar x2 && mE P N 0 sc e1 x1 && mE P N 0 sc e2 x2
  | .cmpr own tg it ifs elt, .ListComp xelt [⟨xtg, xit, xifs, k⟩] scope _ => decide (k = 0) && blkC N sc scope (ownNm N own) && mTg false N (relS scope sc) tg xtg && tg.slots.all (fun i => own.contains i) && decide (ifs.length ≤ 1) &&
      mE P N (if isTupX xtg then 3 else 2) sc it xit && mEs P N (relS scope sc) ifs xifs && mE P N 0 (relS scope sc) elt xelt && !isSetX xit && xifs.all noStar
  | .rng es, .Call (.Name x _) xs [] _ => decide (2 ≤ m) && decide (x = "range") && isGl sc x && xs.all noStar && decide (1 ≤ es.length ∧ es.length ≤ 2) && mEs P N sc es xs
  | .zip a b, .Call (.Name x _) [xa, xb] [] _ => decide (m = 3) && decide (x = "zip") && isGl sc x && noStar xa && noStar xb && mE P N 0 sc a xa && mE P N 0 sc b xb
  | .enu a, .Call (.Name x _) [xa] [] _ => decide (m = 3) && decide (x = "enumerate") && isGl sc x && noStar xa && mE P N 0 sc a xa
  | .dlen i a, .Call (.Name x _) [.DictComp (.Name k1 _) (.Constant (.bool true) _ _) [⟨xtg, xit, [], k⟩] scope _] [] _ => decide (k = 0) && decide (x = "len") && isGl sc x && blkC N sc scope (ownNm N [i]) && mTg false N (relS scope sc) (.nm i) xtg &&
      mE P N (if isTupX xtg then 3 else 2) sc a xit && nmOk N (relS scope sc) i k1 && !isSetX xit
  | .lzip a b, .Call (.Name x _) [.Call (.Name y _) [xa, xb] [] _] [] _ => decide (x = "list") && decide (y = "zip") && isGl sc x && isGl sc y && noStar xa && noStar xb && mE P N 0 sc a xa && mE P N 0 sc b xb
  | _, _ => false
def mEs (P : Prg) (N : List Str) (sc : Scope) : List E → List Expr → Bool
  | [], [] => true
  | .star e :: es, .Starred x _ :: xs => mE P N 1 sc e x && mEs P N sc es xs
  | e :: es, x :: xs => noStar x && mE P N 0 sc e x && mEs P N sc es xs
  | _, _ => false
def mO (P : Prg) (N : List Str) (sc : Scope) : Option E → Option Expr → Bool
  | none, none => true
  | some e, some x => mE P N 0 sc e x
  | _, _ => false
def mKs (P : Prg) (N : List Str) (sc : Scope) : List E → List Keyword → Bool
  | [], [] => true
  | e :: es, ⟨_, x, _⟩ :: xs => mE P N 0 sc e x && mKs P N sc es xs
  | _, _ => false
end
end Pv

set_option Elab.async false
set_option linter.all false
set_option maxRecDepth 100000
set_option maxHeartbeats 8000000
/-! SndN: soundness of the check of expressions. -/
namespace Pv
open PySem PySem.Spec PyProof.Rows L2

section
variable {P : Prg} {cf : Nat → List D → Sto → Option (D × Sto)} {fa : Nat → Addr} {H0 : Hp} {X : Cx} {N : List Str} {sc : Scope}
def isFr : E → Bool
  | .lst _ => true
  | .rev _ => true
  | .cmpr _ _ _ _ _ => true
  | .lzip _ _ => true
  | .bi .list _ => true
  | _ => false
variable (P cf fa H0 X) in
structure Res (m : Nat) (e : E) (x : Expr) : Prop where
  ev : m = 0 → SE P cf fa H0 X x e
  tv : m = 0 → ST P cf fa H0 X x e
  wv : m = 0 → (∃ op vs p, x = .BoolOp op vs p) → SW P cf fa H0 X x e
  fv : m = 0 → isFr e = true → SF P cf fa H0 X x e
  bv : m = 1 → SB P cf fa H0 X x e
  iv : ∀ tg, 2 ≤ m → (m = 3 → isTupX tg = true) → SI P cf fa H0 X tg x e
theorem Res.mk0 {m : Nat} {e : E} {x : Expr} (he : SE P cf fa H0 X x e) (ht : ST P cf fa H0 X x e) (hw : ¬ ∃ op vs p, x = .BoolOp op vs p) (hf : isFr e = true → SF P cf fa H0 X x e) : Res P cf fa H0 X m e x :=
  ⟨fun _ => he, fun _ => ht, fun _ w => absurd w hw, fun _ => hf, fun _ => he.b, fun tg _ _ => si_e he⟩
theorem Res.mk1 {m : Nat} {e : E} {x : Expr} (he : SE P cf fa H0 X x e) (hp : plainT x = true) (hf : isFr e = true → SF P cf fa H0 X x e) : Res P cf fa H0 X m e x :=
  .mk0 he (he.t hp) (fun ⟨_, _, _, e⟩ => by subst e; cases hp) hf
theorem Res.mk2 {m : Nat} {e : E} {x : Expr} (he : SE P cf fa H0 X x e) (hp : plainT x = true) (hf : isFr e = false) : Res P cf fa H0 X m e x := .mk1 he hp fun h => by rw [hf] at h; cases h
theorem Res.mkW {m : Nat} {e : E} {x : Expr} (he : SE P cf fa H0 X x e) (hw : SW P cf fa H0 X x e) (hf : isFr e = false) : Res P cf fa H0 X m e x :=
  ⟨fun _ => he, fun _ => fun r S b S' h => (hw r S b S' h).pt, fun _ _ => hw, fun _ h => (by rw [hf] at h; cases h), fun _ => he.b, fun tg _ _ => si_e he⟩

/-- a if t else b, as a test -/
theorem pt_ifE {c a b : Expr} {tc ta tb : TT} {pos : Pos} (hc : PT X c tc) (ha : PT X a ta) (hb : PT X b tb) : PT X (.IfExp c a b pos) (fun σ H Q => tc σ H fun k H1 => if k = true then ta σ H1 Q else tb σ H1 Q) := by
  refine ⟨fun pins s σ H Q I h => ?_⟩
  show wpAny _ _ (isTrue c X.env (eval c X.env) >>= fun k => if k = true then isTrue a X.env (eval a X.env) else isTrue b X.env (eval b X.env)) _ _ s
  refine wpAny_bind (thn (hc.run pins s σ H _ I h) fun k s1 ⟨H1, I1, q1⟩ => ?_)
  cases k with
  | true => exact ha.run pins s1 σ H1 Q I1 q1
  | false => exact hb.run pins s1 σ H1 Q I1 q1
theorem t_ite {c a b : E} {xc xa xb : Expr} {pos : Pos} (hc : ST P cf fa H0 X xc c) (ha : ST P cf fa H0 X xa a) (hb : ST P cf fa H0 X xb b) : ST P cf fa H0 X (.IfExp xc xa xb pos) (.ite c a b) := by
  intro r S d S' h
  simp only [evE] at h
  obtain ⟨⟨d1, S1⟩, e1, h⟩ := Option.bind_eq_some_iff.mp h
  cases d1 with
  | bl k =>
    cases k with
    | true => exact (pt_ifE (hc r S _ _ e1) (ha r S1 _ _ h) pt_no).wk fun σ H Q ⟨G, B, R, RS, q⟩ => ⟨G, B, R, RS, fun H' G' B' st rs => iteT ⟨G', B', R.step st, rs, fun H2 G2 B2 st2 rs2 => q H2 G2 B2 (st.trans st2) rs2⟩⟩
    | false => exact (pt_ifE (hc r S _ _ e1) pt_no (hb r S1 _ _ h)).wk fun σ H Q ⟨G, B, R, RS, q⟩ => ⟨G, B, R, RS, fun H' G' B' st rs => iteF ⟨G', B', R.step st, rs, fun H2 G2 B2 st2 rs2 => q H2 G2 B2 (st.trans st2) rs2⟩⟩
  | _ => cases h

/-! names -/
theorem vis_of (h : X.env.scope = sc) {x : Str} (v : isVis sc x = true) : Vis X.env.scope x := by
  rw [h]
  unfold isVis at v
  unfold Vis
  split at v
  · exact .inl (by assumption)
  · exact .inr (.inl (by assumption))
  · exact .inr (.inr (by assumption))
  · cases v
theorem gl_of (h : X.env.scope = sc) {x : Str} (v : isGl sc x = true) : Gl X x := by
  show X.env.scope.names.lookup x = some .globalImplicit
  rw [h]
  exact of_decide_eq_true v
theorem okNm_of {x : Str} (h : okNm x = true) : (x == ("__debug__" : Str)) = false ∧ (x == ("__classdict__" : Str)) = false := by
  unfold okNm at h
  simp only [Bool.and_eq_true, Bool.not_eq_true'] at h
  exact h
theorem nmOk_of (W : Wd P cf fa X N sc) {i : Nat} {x : Str} (h : nmOk N sc i x = true) : X.N[i]? = some x ∧ Vis X.env.scope x ∧ (x == ("__debug__" : Str)) = false ∧ (x == ("__classdict__" : Str)) = false := by
  unfold nmOk at h
  simp only [Bool.and_eq_true, decide_eq_true_eq] at h
  exact ⟨by rw [W.hN]; exact h.1.1, vis_of W.hsc h.1.2, okNm_of h.2⟩
theorem glOk_of (W : Wd P cf fa X N sc) {n x : Str} (h : glOk sc n x = true) : n = x ∧ Gl X x ∧ (x == ("__debug__" : Str)) = false := by
  unfold glOk at h
  simp only [Bool.and_eq_true, decide_eq_true_eq] at h
  exact ⟨h.1.1, gl_of W.hsc h.1.2, (okNm_of h.2).1⟩
theorem Wd.blk (W : Wd P cf fa X N sc) (s : Shared) (H : Hp) (scope : Scope) (C : Addr) (cl : List (Str × Addr)) (fp : List Addr) : Wd P cf fa (X.blk s H scope (compEnvC scope cl C X.env) fp) N (relS scope sc) where
  hN := W.hN
  hsc := by
    show relS scope X.env.scope = _
    rw [W.hsc]
  nd := W.nd
  calm := W.calm
  gd := W.gd
  un := W.un
  bi := W.bi
  cst := W.cst
  fnv := W.fnv
  run := W.run
mutual
theorem pg_of (W : Wd P cf fa X N sc) {c : Bool} (hc : c = true → ∀ x, X.fn x = true) : ∀ (tg : Tg) (x : Expr), mTg c N sc tg x = true → PG X x (gTg X.K tg)
  | .nm i, x, h => by
    cases x <;> first | (simp only [mTg] at h; done) | skip
    all_goals try (simp only [mTg] at h; cases h; done)
    rename_i n pos
    simp only [mTg, Bool.and_eq_true, Bool.or_eq_true, decide_eq_true_eq] at h
    rcases h.2 with h2 | ⟨h2, h3⟩
    · have hl : X.env.scope.names.lookup n = some .local := by rw [W.hsc]; exact h2
      exact pg_name (by rw [W.hN]; exact W.nd) (by rw [W.hN]; exact h.1) (.inl hl) (.inr hl)
    · have hl : X.env.scope.names.lookup n = some .cell := by rw [W.hsc]; exact h3
      exact pg_name (by rw [W.hN]; exact W.nd) (by rw [W.hN]; exact h.1) (.inr hl) (.inl (hc h2 n))
  | .tp ts, x, h => by
    cases x <;> first | (simp only [mTg] at h; done) | skip
    all_goals try (simp only [mTg] at h; cases h; done)
    rename_i es k pos
    simp only [mTg] at h
    obtain ⟨h1, h2, h3⟩ := pgs_of W hc ts es h
    exact pg_tl W.calm h1 h2 h3
theorem pgs_of (W : Wd P cf fa X N sc) {c : Bool} (hc : c = true → ∀ x, X.fn x = true) : ∀ (ts : List Tg) (xs : List Expr), mTgs c N sc ts xs = true → PGs X xs (gTgs X.K ts) ∧ (assignEach xs X.env).length = ts.length ∧ (assignEach xs X.env).findIdx? (·.1) = none
  | [], [], _ => ⟨pgs_nil, rfl, rfl⟩
  | [], _ :: _, h => by simp only [mTgs] at h; cases h
  | _ :: _, [], h => by simp only [mTgs] at h; cases h
  | t :: ts, x :: xs, h => by
    simp only [mTgs, Bool.and_eq_true] at h
    obtain ⟨⟨hx, h1⟩, h2⟩ := h
    obtain ⟨i1, i2, i3⟩ := pgs_of W hc ts xs h2
    have ex : assignEach (x :: xs) X.env = (false, assign x X.env) :: assignEach xs X.env := by
      cases x <;> first | rfl | cases hx
    refine ⟨pgs_cons (pg_of W hc t x h1) i1 (by rw [ex]; rfl), by rw [ex, List.length_cons, i2, List.length_cons], ?_⟩
    rw [ex, List.findIdx?_cons]
    simp only [i3]
    rfl
end

theorem mE_star {m : Nat} {e : E} {x : Expr} : mE P N m sc (.star e) x = false := by
  unfold mE
  cases x <;> rfl

variable (P cf fa) in
/-- the check is sound for e -/
def Good (Ar : Arity P cf) (N : List Str) (e : E) : Prop := ∀ (H0 : Hp) (X : Cx) (sc : Scope) (m : Nat) (x : Expr), Wd P cf fa X N sc → mE P N m sc e x = true → Res P cf fa H0 X m e x

section
variable {Ar : Arity P cf}
theorem good_es {n : Nat} (ih : ∀ e : E, sizeOf e < n → Good P cf fa Ar N e) : ∀ (es : List E), sizeOf es ≤ n → ∀ (H0 : Hp) (X : Cx) (sc : Scope) (xs : List Expr), Wd P cf fa X N sc → mEs P N sc es xs = true → SA P cf fa H0 X xs es
  | [], _, H0, X, sc, xs, W, h => by
    cases xs with
    | nil => exact sa_nil
    | cons _ _ => simp only [mEs] at h; cases h
  | e :: es, hs, H0, X, sc, xs, W, h => by
    have s1 : sizeOf e < n := by simp at hs; omega
    have s2 : sizeOf es ≤ n := by simp at hs; omega
    cases xs with
    | nil => cases e <;> (simp only [mEs] at h; cases h)
    | cons x xs =>
      unfold mEs at h
      split at h
      · rename_i h1 _; exact absurd h1 (by simp)
      · rename_i e1 es1 x1 p1 xs1 h1 h2
        simp only [List.cons.injEq] at h1 h2
        obtain ⟨rfl, rfl⟩ := h1
        obtain ⟨rfl, rfl⟩ := h2
        rw [Bool.and_eq_true] at h
        have s3 : sizeOf e1 < n := by simp at s1; omega
        exact sa_star ((ih e1 s3 H0 X sc 1 x1 W h.1).bv rfl) (good_es ih es s2 H0 X sc xs W h.2)
      · rename_i e1 es1 x1 xs1 hn h1 h2
        simp only [List.cons.injEq] at h1 h2
        obtain ⟨rfl, rfl⟩ := h1
        obtain ⟨rfl, rfl⟩ := h2
        simp only [Bool.and_eq_true] at h
        have ns : ∀ y, e ≠ .star y := fun y z => by
          subst z
          rw [mE_star] at h
          exact absurd h.1.2 Bool.false_ne_true
        exact sa_cons ns h.1.1 ((ih e s1 H0 X sc 0 x W h.1.2).ev rfl) (good_es ih es s2 H0 X sc xs W h.2)
      · cases h
theorem good_ks {n : Nat} (ih : ∀ e : E, sizeOf e < n → Good P cf fa Ar N e) : ∀ (es : List E), sizeOf es ≤ n → ∀ (H0 : Hp) (X : Cx) (sc : Scope) (xs : List Keyword), Wd P cf fa X N sc → mKs P N sc es xs = true → SK P cf fa H0 X xs es
  | [], _, H0, X, sc, xs, W, h => by
    cases xs with
    | nil => exact sk_nil
    | cons _ _ => simp only [mKs] at h; cases h
  | e :: es, hs, H0, X, sc, xs, W, h => by
    have s1 : sizeOf e < n := by simp at hs; omega
    have s2 : sizeOf es ≤ n := by simp at hs; omega
    cases xs with
    | nil => simp only [mKs] at h; cases h
    | cons x xs =>
      obtain ⟨nm, v, p⟩ := x
      simp only [mKs, Bool.and_eq_true] at h
      have ns : ∀ y, e ≠ .star y := fun y z => by
        subst z
        rw [mE_star] at h
        exact absurd h.1 Bool.false_ne_true
      exact sk_cons ns ((ih e s1 H0 X sc 0 v W h.1).ev rfl) (good_ks ih es s2 H0 X sc xs W h.2)
theorem good_o {n : Nat} (ih : ∀ e : E, sizeOf e < n → Good P cf fa Ar N e) (o : Option E) (hs : sizeOf o ≤ n) (H0 : Hp) (X : Cx) (sc : Scope) (x : Option Expr) (W : Wd P cf fa X N sc) (h : mO P N sc o x = true) : SO P cf fa H0 X x o := by
  cases o with
  | none =>
    cases x with
    | none => exact so_none
    | some _ => simp only [mO] at h; cases h
  | some e =>
    cases x with
    | none => simp only [mO] at h; cases h
    | some y =>
      simp only [mO] at h
      have s1 : sizeOf e < n := by simp at hs; omega
      exact so_some ((ih e s1 H0 X sc 0 y W h).ev rfl)
end
end
end Pv

set_option Elab.async false
set_option linter.all false
set_option maxRecDepth 100000
set_option maxHeartbeats 8000000
/-! SndO: soundness of the check of expressions, the whole. -/
namespace Pv
open PySem PySem.Spec PyProof.Rows L2

section
variable {P : Prg} {cf : Nat → List D → Sto → Option (D × Sto)} {fa : Nat → Addr} {N : List Str}

theorem biNm_in {b : Bi} {nm : String} (h : biNm b = some nm) : (nm : Str) ∈ biNames := by
  cases b <;> first | (cases h; decide +kernel) | cases h
theorem good_bi1 {H0 : Hp} {X : Cx} {sc : Scope} {m : Nat} {b : Bi} {e : E} {x : Expr} {n : Str} {p pos : Pos} (W : Wd P cf fa X N sc) {nm : String} (hb : biNm b = some nm) (hn : (nm : Str) = n) (hg : isGl sc n = true) (hx : noStar x = true) (ne : ∀ y, e ≠ .star y)
    (lr : isLR b e = false) (hB : SB P cf fa H0 X x e) : Res P cf fa H0 X m (.bi b [e]) (.Call (.Name n p) [x] [] pos) := by
  subst hn
  have hgl := gl_of W.hsc hg
  have hin := biNm_in hb
  by_cases hl : b = .list
  · subst hl
    cases hb
    have sf := f_list (p := p) (pos := pos) W hgl hx ne hB
    exact .mk1 sf.e rfl fun _ => sf
  · have nf : isFr (.bi b [e]) = false := by cases b <;> first | rfl | exact absurd rfl hl
    cases hf : fnId b with
    | some q =>
      obtain ⟨q1, q2⟩ := q
      have e1 : q1 = nm := by cases b <;> first | (cases hf; cases hb; rfl) | cases hf
      subst e1
      exact .mk2 (s_fn1 (p := p) (pos := pos) W hf hin hgl hx ne hB) rfl nf
    | none =>
      cases ht : tyId b with
      | none => cases b <;> first | (simp [fnId] at hf; done) | (simp [tyId] at ht; done) | (simp [biNm] at hb; done)
      | some q =>
        obtain ⟨q1, q2⟩ := q
        have e1 : q1 = nm := by cases b <;> first | (cases ht; cases hb; rfl) | cases ht
        subst e1
        exact .mk2 (s_ty1 (p := p) (pos := pos) W ht hl hin hgl hx ne hB) rfl nf

theorem mEs_cons {sc : Scope} {e : E} {es : List E} {xs : List Expr} (h : mEs P N sc (e :: es) xs = true) (hx : xs.all noStar = true) :
    ∃ y ys, xs = y :: ys ∧ noStar y = true ∧ mE P N 0 sc e y = true ∧ (∀ z, e ≠ .star z) ∧ ys.all noStar = true ∧ mEs P N sc es ys = true := by
  cases xs with
  | nil => cases e <;> (simp only [mEs] at h; cases h)
  | cons x xs =>
    rw [List.all_cons, Bool.and_eq_true] at hx
    unfold mEs at h
    split at h
    · rename_i h1 _; exact absurd h1 (by simp)
    · rename_i e1 es1 x1 p1 xs1 h1 h2
      simp only [List.cons.injEq] at h1 h2
      obtain ⟨rfl, rfl⟩ := h2
      exact absurd hx.1 Bool.false_ne_true
    · rename_i e1 es1 x1 xs1 hn h1 h2
      simp only [List.cons.injEq] at h1 h2
      obtain ⟨rfl, rfl⟩ := h1
      obtain ⟨rfl, rfl⟩ := h2
      simp only [Bool.and_eq_true] at h
      refine ⟨_, _, rfl, h.1.1, h.1.2, fun y z => ?_, hx.2, h.2⟩
      subst z
      rw [mE_star] at h
      exact absurd h.1.2 Bool.false_ne_true
    · cases h
theorem mEs_none {sc : Scope} {xs : List Expr} (h : mEs P N sc [] xs = true) : xs = [] := by
  cases xs with
  | nil => rfl
  | cons _ _ => simp only [mEs] at h; cases h
theorem rng_args {sc : Scope} {es : List E} {xs : List Expr} (hx : xs.all noStar = true) (hl : 1 ≤ es.length ∧ es.length ≤ 2) (h : mEs P N sc es xs = true) :
    (∃ e1 y1, es = [e1] ∧ xs = [y1] ∧ noStar y1 = true ∧ mE P N 0 sc e1 y1 = true ∧ ∀ z, e1 ≠ .star z) ∨
    ∃ e1 e2 y1 y2, es = [e1, e2] ∧ xs = [y1, y2] ∧ noStar y1 = true ∧ mE P N 0 sc e1 y1 = true ∧ (∀ z, e1 ≠ .star z) ∧ noStar y2 = true ∧ mE P N 0 sc e2 y2 = true ∧ ∀ z, e2 ≠ .star z := by
  match es, hl, h with
  | [e1], _, h =>
    obtain ⟨y, ys, rfl, a1, a2, a3, a4, a5⟩ := mEs_cons h hx
    rw [mEs_none a5]
    exact .inl ⟨e1, y, rfl, rfl, a1, a2, a3⟩
  | [e1, e2], _, h =>
    obtain ⟨y, ys, rfl, a1, a2, a3, a4, a5⟩ := mEs_cons h hx
    obtain ⟨z, zs, rfl, b1, b2, b3, b4, b5⟩ := mEs_cons a5 a4
    rw [mEs_none b5]
    exact .inr ⟨e1, e2, y, z, rfl, rfl, a1, a2, a3, b1, b2, b3⟩
  | [], hl, _ => exact absurd hl.1 (by simp)
  | _ :: _ :: _ :: _, hl, _ => exact absurd hl.2 (by simp)
theorem good_n (Ar : Arity P cf) (fnd : ∀ (j : Nat) (ds : List D) (S : Sto) (q : D × Sto), cf j ds S = some q → ∃ g, P.fns[j]? = some g) : ∀ n : Nat, ∀ e : E, sizeOf e < n → Good P cf fa Ar N e := by
  intro n
  induction n with
  | zero => intro e h; exact absurd h (Nat.not_lt_zero _)
  | succ n ih =>
    intro e hs H0 X sc m x W h
    have lt : ∀ {a : E}, sizeOf a < sizeOf e → Good P cf fa Ar N a := fun {a} ha => ih a (by omega)
    have les : ∀ {es : List E}, sizeOf es < sizeOf e → ∀ (H0 : Hp) (X : Cx) (sc : Scope) (xs : List Expr), Wd P cf fa X N sc → mEs P N sc es xs = true → SA P cf fa H0 X xs es := fun {es} ha => good_es (n := n) ih es (by omega)
    unfold mE at h
    split at h
    · -- cst
      split at h
      · rw [of_decide_eq_true h]; exact .mk2 s_int rfl rfl
      · rw [of_decide_eq_true h]; exact .mk2 s_bl rfl rfl
      · exact .mk2 s_non rfl rfl
      · rw [of_decide_eq_true h]; exact .mk2 s_str rfl rfl
      · cases h
    · -- var
      obtain ⟨h1, h2, h3, h4⟩ := nmOk_of W h
      exact .mk2 (s_var h1 h2 h3 h4) rfl rfl
    · -- bor
      rw [Bool.and_eq_true] at h
      have hm := of_decide_eq_true h.1
      obtain ⟨h1, h2, h3, h4⟩ := nmOk_of W h.2
      subst hm
      exact ⟨fun z => absurd z (by decide), fun z => absurd z (by decide), fun z => absurd z (by decide), fun z => absurd z (by decide), fun _ => s_bor h1 h2 h3 h4, fun _ z => absurd z (by decide)⟩
    · -- glb
      split at h
      · rename_i q hj
        obtain ⟨h1, h2, h3⟩ := glOk_of W h
        subst h1
        exact .mk2 (s_glb W hj h2 h3) rfl rfl
      · cases h
    · -- fnv
      split at h
      · rename_i q hj
        obtain ⟨h1, h2, h3⟩ := glOk_of W h
        subst h1
        exact .mk2 (s_fnv W hj h2 h3) rfl rfl
      · cases h
    · -- bin
      simp only [Bool.and_eq_true, decide_eq_true_eq] at h
      obtain ⟨⟨rfl, h1⟩, h2⟩ := h
      exact .mk2 (s_bin ((lt (by simp <;> omega) H0 X sc 1 _ W h1).bv rfl) ((lt (by simp <;> omega) H0 X sc 1 _ W h2).bv rfl)) rfl rfl
    · -- neg
      exact .mk0 (s_neg ((lt (by simp <;> omega) H0 X sc 0 _ W h).ev rfl)) ((s_neg ((lt (by simp <;> omega) H0 X sc 0 _ W h).ev rfl)).t rfl) (fun ⟨_, _, _, e⟩ => nomatch e) (fun h => nomatch h)
    · -- not
      have g := lt (by simp <;> omega) H0 X sc 0 _ W h
      exact .mk0 (s_not (g.ev rfl) (g.tv rfl)).1 (s_not (g.ev rfl) (g.tv rfl)).2 (fun ⟨_, _, _, e⟩ => nomatch e) (fun h => nomatch h)
    · -- and
      rename_i a b xa xb xs p
      rw [Bool.and_eq_true] at h
      have g1 := lt (a := a) (by simp <;> omega) H0 X sc 0 _ W h.1
      cases xs with
      | nil =>
        have g2 := lt (a := b) (by simp <;> omega) H0 X sc 0 _ W h.2
        have s := s_and2 (pos := p) (g1.ev rfl) (g1.tv rfl) (g2.ev rfl) (g2.tv rfl)
        exact .mkW s.1 s.2 rfl
      | cons xc r =>
        have g2 := lt (a := b) (by simp <;> omega) H0 X sc 0 _ W h.2
        have s := s_andm (pos := p) (g1.ev rfl) (g1.tv rfl) (g2.ev rfl) (g2.wv rfl ⟨_, _, _, rfl⟩)
        exact .mkW s.1 s.2 rfl
    · -- or
      rename_i a b xa xb xs p
      rw [Bool.and_eq_true] at h
      have g1 := lt (a := a) (by simp <;> omega) H0 X sc 0 _ W h.1
      cases xs with
      | nil =>
        have g2 := lt (a := b) (by simp <;> omega) H0 X sc 0 _ W h.2
        have s := s_or2 (pos := p) (g1.ev rfl) (g1.tv rfl) (g2.ev rfl) (g2.tv rfl)
        exact .mkW s.1 s.2 rfl
      | cons xc r =>
        have g2 := lt (a := b) (by simp <;> omega) H0 X sc 0 _ W h.2
        have s := s_orm (pos := p) (g1.ev rfl) (g1.tv rfl) (g2.ev rfl) (g2.wv rfl ⟨_, _, _, rfl⟩)
        exact .mkW s.1 s.2 rfl
    · -- cmp
      simp only [Bool.and_eq_true, decide_eq_true_eq, Bool.not_eq_true'] at h
      obtain ⟨⟨⟨rfl, h1⟩, h2⟩, h3⟩ := h
      have g1 := (lt (by simp <;> omega) H0 X sc 1 _ W h1).bv rfl
      have g2 := (lt (by simp <;> omega) H0 X sc 1 _ W h2).bv rfl
      exact .mk0 (s_cmp W g1 g2 h3).1 (s_cmp W g1 g2 h3).2 (fun ⟨_, _, _, e⟩ => nomatch e) (fun h => nomatch h)
    · -- chn
      simp only [Bool.and_eq_true, decide_eq_true_eq, Bool.not_eq_true'] at h
      obtain ⟨⟨⟨⟨⟨rfl, rfl⟩, h1⟩, h2⟩, h3⟩, h4⟩ := h
      have g1 := (lt (by simp <;> omega) H0 X sc 0 _ W h1).ev rfl
      have g2 := (lt (by simp <;> omega) H0 X sc 0 _ W h2).ev rfl
      have g3 := (lt (by simp <;> omega) H0 X sc 0 _ W h3).ev rfl
      exact .mk0 (s_chn W g1 g2 g3 h4).1 (s_chn W g1 g2 g3 h4).2 (fun ⟨_, _, _, e⟩ => nomatch e) (fun h => nomatch h)
    · -- ite
      simp only [Bool.and_eq_true] at h
      have g1 := lt (by simp <;> omega) H0 X sc 0 _ W h.1.1
      have g2 := lt (by simp <;> omega) H0 X sc 0 _ W h.1.2
      have g3 := lt (by simp <;> omega) H0 X sc 0 _ W h.2
      exact .mk0 (s_ite (g1.tv rfl) (g2.ev rfl) (g3.ev rfl)) (t_ite (g1.tv rfl) (g2.tv rfl) (g3.tv rfl)) (fun ⟨_, _, _, e⟩ => nomatch e) (fun h => nomatch h)
    · -- tup
      exact .mk2 (s_tup (les (by simp <;> omega) H0 X sc _ W h)) rfl rfl
    · -- lst
      have sa := les (by simp <;> omega) H0 X sc _ W h
      exact .mk1 (f_lst sa).e rfl fun _ => f_lst sa
    · -- box
      exact .mk2 (s_box (les (by simp <;> omega) H0 X sc _ W h)) rfl rfl
    · -- idx
      simp only [Bool.and_eq_true] at h
      exact .mk2 (s_idx ((lt (by simp <;> omega) H0 X sc 1 _ W h.1.1).bv rfl) ((lt (by simp <;> omega) H0 X sc 0 _ W h.1.2).ev rfl) h.2) rfl rfl
    · -- slc
      rename_i a lo hi xa xl xh p1 p2
      simp only [Bool.and_eq_true] at h
      exact .mk2 (s_slc ((lt (by simp <;> omega) H0 X sc 1 _ W h.1.1).bv rfl) (good_o (n := n) ih lo (by simp at hs; omega) H0 X sc xl W h.1.2) (good_o (n := n) ih hi (by simp at hs; omega) H0 X sc xh W h.2)) rfl rfl
    · -- rev
      simp only [Bool.and_eq_true, decide_eq_true_eq] at h
      obtain ⟨rfl, h⟩ := h
      have sb := (lt (by simp <;> omega) H0 X sc 1 _ W h).bv rfl
      exact .mk1 (f_rev sb).e rfl fun _ => f_rev sb
    · -- call
      rename_i f es nx p xs p2
      split at h
      · rename_i g hj
        simp only [Bool.and_eq_true] at h
        obtain ⟨⟨h1, h2⟩, h3⟩ := h
        obtain ⟨e1, h4, h5⟩ := glOk_of W h1
        subst e1
        have sa := les (by simp <;> omega) H0 X sc _ W h3
        cases xs with
        | nil =>
          have e0 : es = [] := by
            cases es with
            | nil => rfl
            | cons a r => cases a <;> (simp only [mEs] at h3; cases h3)
          subst e0
          exact .mk2 (s_call0 W Ar hj h4 h5) rfl rfl
        | cons y ys =>
          rw [List.all_cons, Bool.and_eq_true] at h2
          exact .mk2 (s_call W Ar hj h4 h5 h2.1 h2.2 sa) rfl rfl
      · cases h
    · -- callk
      rename_i q es ks nx p xs kws p2
      split at h
      · rename_i w hw
        split at h
        · rename_i g hj
          simp only [Bool.and_eq_true, decide_eq_true_eq] at h
          obtain ⟨⟨⟨⟨h1, h2⟩, h3⟩, h6⟩, h7⟩ := h
          obtain ⟨e1, h4, h5⟩ := glOk_of W h1
          subst e1
          have sa := les (es := es) (by simp <;> omega) H0 X sc _ W h6
          have sk := good_ks (n := n) ih ks (by simp at hs; omega) H0 X sc kws W h7
          cases xs with
          | nil =>
            have e0 : es = [] := by
              cases es with
              | nil => rfl
              | cons a r => cases a <;> (simp only [mEs] at h6; cases h6)
            subst e0
            exact .mk2 (s_callk0 W Ar hw hj h4 h5 h3 sk) rfl rfl
          | cons y ys =>
            rw [List.all_cons, Bool.and_eq_true] at h2
            exact .mk2 (s_callk W Ar hw hj h4 h5 h3 h2.1 h2.2 sa sk) rfl rfl
        · cases h
      · cases h
    · -- callv
      rename_i f es nx p x0 xs p2
      simp only [Bool.and_eq_true] at h
      obtain ⟨⟨⟨h1, h2⟩, h3⟩, h4⟩ := h
      split at h1
      · obtain ⟨n1, n2, n3, n4⟩ := nmOk_of W h1
        exact .mk2 (s_callv W Ar fnd n1 n2 n3 n4 h2 h3 (les (by simp <;> omega) H0 X sc _ W h4)) rfl rfl
      · cases h1
    · -- bits
      simp only [Bool.and_eq_true, decide_eq_true_eq] at h
      obtain ⟨⟨⟨rfl, h1⟩, h2⟩, h3⟩ := h
      exact .mk2 (s_bits ((lt (by simp <;> omega) H0 X sc 0 _ W h1).ev rfl) h2 h3) rfl rfl
    · -- bi, one argument
      rename_i b e nx p xe p2
      simp only [Bool.and_eq_true] at h
      obtain ⟨⟨⟨h1, h2⟩, h3⟩, h4⟩ := h
      split at h1
      · rename_i nm hb
        have hn := of_decide_eq_true h1
        have ne : ∀ y, e ≠ .star y := fun y z => by
          subst z
          have e0 : isLR b (.star y) = false := by cases b <;> rfl
          rw [e0, mE_star] at h4
          exact absurd h4 Bool.false_ne_true
        by_cases lr : isLR b e = true
        · rw [if_pos lr] at h4
          subst hn
          have hgl := gl_of W.hsc h2
          have eb : b = .list ∧ ∃ es, e = .rng es := by
            cases b <;> first | (exact absurd lr Bool.false_ne_true) | skip
            cases e <;> first | (exact absurd lr Bool.false_ne_true) | exact ⟨rfl, _, rfl⟩
          obtain ⟨rfl, es, rfl⟩ := eb
          cases hb
          unfold mE at h4
          cases xe with
          | Call fx args kws q =>
            cases fx with
            | Name y q2 =>
              cases kws with
              | nil =>
                simp only [Bool.and_eq_true, decide_eq_true_eq] at h4
                obtain ⟨⟨⟨⟨⟨_, rfl⟩, g2⟩, g3⟩, g4⟩, g5⟩ := h4
                have hg2 := gl_of W.hsc g2
                have szs : sizeOf es < n := by simp at hs; omega
                rcases rng_args g3 g4 g5 with ⟨e1, y1, rfl, rfl, k1, k2, k3⟩ | ⟨e1, e2, y1, y2, rfl, rfl, k1, k2, k3, l1, l2, l3⟩
                · have sf := f_listRg1 (p := p) (pos := p2) (p2 := q2) (pos2 := q) W hgl hg2 k1 k3 ((ih e1 (by simp at szs; omega) H0 X sc 0 y1 W k2).ev rfl)
                  exact .mk1 sf.e rfl fun _ => sf
                · have sf := f_listRg2 (p := p) (pos := p2) (p2 := q2) (pos2 := q) W hgl hg2 k1 l1 k3 l3 ((ih e1 (by simp at szs; omega) H0 X sc 0 y1 W k2).ev rfl) ((ih e2 (by simp at szs; omega) H0 X sc 0 y2 W l2).ev rfl)
                  exact .mk1 sf.e rfl fun _ => sf
              | cons _ _ => cases h4
            | _ => cases h4
          | _ => cases h4
        · have lr' : isLR b e = false := by simpa using lr
          rw [if_neg lr] at h4
          exact good_bi1 W hb hn h2 h3 ne lr' ((lt (by simp <;> omega) H0 X sc 1 _ W h4).bv rfl)
      · cases h1
    · -- isinstance
      rename_i b e nx p xe T p3 p2
      simp only [Bool.and_eq_true, decide_eq_true_eq] at h
      obtain ⟨⟨⟨⟨⟨h1, rfl⟩, h2⟩, h3⟩, h4⟩, h5⟩ := h
      split at h1
      · rename_i nm hb
        have hn := of_decide_eq_true h1
        subst hn
        have ne : ∀ y, e ≠ .star y := fun y z => by
          subst z
          rw [mE_star] at h5
          exact absurd h5 Bool.false_ne_true
        have hin : (nm : Str) ∈ biNames := by
          cases b <;> first | (simp [isId] at hb; done) | (cases hb; decide +kernel)
        have nf : isFr (.bi b [e]) = false := by cases b <;> first | rfl | (simp [isId] at hb; done)
        exact .mk2 (s_is W hb (gl_of W.hsc h2) (gl_of W.hsc h3) hin h4 ne ((lt (by simp <;> omega) H0 X sc 1 _ W h5).bv rfl)) rfl nf
      · cases h1
    · -- max, min
      rename_i b e1 e2 nx p x1 x2 p2
      simp only [Bool.and_eq_true] at h
      obtain ⟨⟨⟨⟨⟨h1, h2⟩, h3⟩, h4⟩, h5⟩, h6⟩ := h
      split at h1
      · rename_i nm hb
        have hn := of_decide_eq_true h1
        subst hn
        have n1 : ∀ y, e1 ≠ .star y := fun y z => by
          subst z
          rw [mE_star] at h5
          exact absurd h5 Bool.false_ne_true
        have n2 : ∀ y, e2 ≠ .star y := fun y z => by
          subst z
          rw [mE_star] at h6
          exact absurd h6 Bool.false_ne_true
        have hb' : (b = .max2 ∧ nm = "max") ∨ (b = .min2 ∧ nm = "min") := by
          cases b <;> first | (simp [mmNm] at hb; done) | (cases hb; first | exact .inl ⟨rfl, rfl⟩ | exact .inr ⟨rfl, rfl⟩)
        have nf : isFr (.bi b [e1, e2]) = false := by
          rcases hb' with ⟨rfl, _⟩ | ⟨rfl, _⟩ <;> rfl
        exact .mk2 (s_mm W hb' (gl_of W.hsc h2) h3 h4 n1 n2 ((lt (by simp <;> omega) H0 X sc 0 _ W h5).ev rfl) ((lt (by simp <;> omega) H0 X sc 0 _ W h6).ev rfl)) rfl nf
      · cases h1
    · -- comprehension
      rename_i own tg it ifs elt xelt xtg xit xifs k scope p
      simp only [Bool.and_eq_true, decide_eq_true_eq, Bool.not_eq_true'] at h
      obtain ⟨⟨⟨⟨⟨⟨⟨⟨⟨rfl, h1⟩, h2⟩, h3⟩, h4⟩, h5⟩, h6⟩, h7⟩, h8⟩, h9⟩ := h
      have hown : (ownNm N own).map (·.2) = own := by
        unfold ownNm
        rw [List.map_map]
        show own.map (fun i => i) = own
        exact List.map_id' own
      have hsl : ∀ i ∈ tg.slots, i ∈ (ownNm N own).map (·.2) := fun i hi => by
        rw [hown]
        have := List.all_eq_true.mp h3 i hi
        simpa using this
      have hfs : ∀ x, foldedSetIterable xit X.env x = pure x := by
        intro y
        cases xit <;> first | rfl | cases h8
      have c : CompOk P cf fa H0 X (ownNm N own) scope xtg xit xifs xelt tg it ifs elt := {
        it := (lt (by simp <;> omega) H0 X sc _ xit W h5).iv xtg (by split <;> omega) (fun e => by
          by_cases hh : isTupX xtg = true
          · exact hh
          · rw [if_neg hh] at e; omega)
        ok := by rw [W.hN, W.hsc]; exact blkOk_by h1
        one := h4
        slots := hsl
        tg := fun s H C cl fp => pg_of (c := false) (W.blk s H scope C cl fp) (fun z => nomatch z) tg xtg h2
        ifs := fun s H C cl fp => by
          have sz : ∀ e ∈ ifs, sizeOf e < n := fun e he => by
            have := List.sizeOf_lt_of_mem he
            simp at hs
            omega
          match ifs, xifs, h4, h6, sz, h9 with
          | [], xs, _, h6, _, _ =>
            rw [mEs_none h6]
            exact pts_nil
          | [e], xs, _, h6, sz, ns =>
            obtain ⟨y, ys, rfl, a1, a2, a3, a4, a5⟩ := mEs_cons h6 ns
            rw [mEs_none a5]
            exact pts_one ((ih e (sz e (by simp)) H0 _ _ 0 y (W.blk s H scope C cl fp) a2).tv rfl).a
          | _ :: _ :: _, _, h4, _, _, _ => exact absurd h4 (by simp)
        elt := fun s H C cl fp => (lt (by simp <;> omega) H0 _ _ 0 xelt (W.blk s H scope C cl fp) h7).ev rfl
        fs := hfs }
      have sf := f_comp (pos := p) W c
      rw [hown] at sf
      exact .mk1 sf.e rfl fun _ => sf
    · -- range
      rename_i es nx p xs p2
      simp only [Bool.and_eq_true, decide_eq_true_eq] at h
      obtain ⟨⟨⟨⟨⟨h1, rfl⟩, h2⟩, h3⟩, h4⟩, h5⟩ := h
      have hgl := gl_of W.hsc h2
      refine ⟨fun z => by omega, fun z => by omega, fun z => by omega, fun z => by omega, fun z => by omega, fun tg _ _ => ?_⟩
      rcases rng_args h3 h4 h5 with ⟨e1, y1, rfl, rfl, k1, k2, k3⟩ | ⟨e1, e2, y1, y2, rfl, rfl, k1, k2, k3, l1, l2, l3⟩
      · exact si_rng1 W hgl k1 k3 ((lt (by simp <;> omega) H0 X sc 0 y1 W k2).ev rfl)
      · exact si_rng2 W hgl k1 l1 k3 l3 ((lt (by simp <;> omega) H0 X sc 0 y1 W k2).ev rfl) ((lt (by simp <;> omega) H0 X sc 0 y2 W l2).ev rfl)
    · -- zip
      rename_i a b nx p xa xb p2
      simp only [Bool.and_eq_true, decide_eq_true_eq] at h
      obtain ⟨⟨⟨⟨⟨⟨rfl, rfl⟩, h2⟩, h3⟩, h4⟩, h5⟩, h6⟩ := h
      have hgl := gl_of W.hsc h2
      refine ⟨fun z => by omega, fun z => by omega, fun z => by omega, fun z => by omega, fun z => by omega, fun tg _ ht => ?_⟩
      have ht' := ht rfl
      cases tg <;> first | cases ht' | skip
      exact si_zip W hgl h3 h4 ((lt (by simp <;> omega) H0 X sc 0 _ W h5).ev rfl) ((lt (by simp <;> omega) H0 X sc 0 _ W h6).ev rfl)
    · -- enumerate
      rename_i a nx p xa p2
      simp only [Bool.and_eq_true, decide_eq_true_eq] at h
      obtain ⟨⟨⟨⟨rfl, rfl⟩, h2⟩, h3⟩, h4⟩ := h
      have hgl := gl_of W.hsc h2
      refine ⟨fun z => by omega, fun z => by omega, fun z => by omega, fun z => by omega, fun z => by omega, fun tg _ ht => ?_⟩
      have ht' := ht rfl
      cases tg <;> first | cases ht' | skip
      exact si_enu W hgl h3 ((lt (by simp <;> omega) H0 X sc 0 _ W h4).ev rfl)
    · -- len of a dict comprehension
      rename_i i a nx p k1 p1 j p2 xtg xit k scope p3 p4
      simp only [Bool.and_eq_true, decide_eq_true_eq, Bool.not_eq_true'] at h
      obtain ⟨⟨⟨⟨⟨⟨⟨rfl, rfl⟩, h1⟩, h2⟩, h3⟩, h4⟩, h5⟩, h6⟩ := h
      have hfs : ∀ x, foldedSetIterable xit X.env x = pure x := by
        intro y
        cases xit <;> first | rfl | cases h6
      have c : CompOk P cf fa H0 X (ownNm N [i]) scope xtg xit [] (.Name k1 p1) (.nm i) a [] (.var i) := {
        it := (lt (by simp <;> omega) H0 X sc _ xit W h4).iv xtg (by split <;> omega) (fun e => by
          by_cases hh : isTupX xtg = true
          · exact hh
          · rw [if_neg hh] at e; omega)
        ok := by rw [W.hN, W.hsc]; exact blkOk_by h2
        one := by simp
        slots := fun z hz => by simpa [Tg.slots, ownNm] using hz
        tg := fun s H C cl fp => pg_of (c := false) (W.blk s H scope C cl fp) (fun z => nomatch z) (.nm i) xtg h3
        ifs := fun s H C cl fp => pts_nil
        elt := fun s H C cl fp => by
          obtain ⟨n1, n2, n3, n4⟩ := nmOk_of (W.blk s H scope C cl fp) h5
          exact s_var n1 n2 n3 n4
        fs := hfs }
      exact .mk2 (s_dlen W (by simp [ownNm]) c (gl_of W.hsc h1)) rfl rfl
    · -- list of a zip
      rename_i a b nx p ny p2 xa xb p3 p4
      simp only [Bool.and_eq_true, decide_eq_true_eq] at h
      obtain ⟨⟨⟨⟨⟨⟨⟨rfl, rfl⟩, h1⟩, h2⟩, h3⟩, h4⟩, h5⟩, h6⟩ := h
      have sf := f_lzip (p := p) (p2 := p2) (pos := p4) (pos2 := p3) W (gl_of W.hsc h1) (gl_of W.hsc h2) h3 h4 ((lt (by simp <;> omega) H0 X sc 0 _ W h5).ev rfl) ((lt (by simp <;> omega) H0 X sc 0 _ W h6).ev rfl)
      exact .mk1 sf.e rfl fun _ => sf
    · cases h
theorem good (Ar : Arity P cf) (fnd : ∀ (j : Nat) (ds : List D) (S : Sto) (q : D × Sto), cf j ds S = some q → ∃ g, P.fns[j]? = some g) (e : E) : Good P cf fa Ar N e := good_n Ar fnd (sizeOf e + 1) e (Nat.lt_succ_self _)
end
end Pv

set_option Elab.async false
set_option linter.all false
set_option maxRecDepth 100000
set_option maxHeartbeats 8000000
/-! SndQ: the check of statements, and its soundness. -/
namespace Pv
open PySem PySem.Spec PyProof.Rows L2

def nmsOf (sc : Scope) (line : Nat) (ts : List Expr) : List Str := ts.filterMap fun
  | .Name id pos => if sc.names.lookup id == some .local && pos.line == line then some id else none
  | _ => none
def lineOf (ts : List Expr) : Nat := (ts.head?.map (·.pos.line)).getD 0
theorem sw_form {env : Env} {ts vs : List Expr} {k : Nat} {p : Pos} {k2 : Nat} {p2 : Pos} : swappedStores [.Tuple ts k p] (.Tuple vs k2 p2) env =
   (if (!(ts.length == 2 || ts.length == 3) || vs.length != ts.length || env.blockKind != .function) = true then pure none else
    if (vs.any fun | .Starred .. => true | _ => false) = true then pure none else
    if ((nmsOf env.scope (lineOf ts) ts).length != ts.length || (nmsOf env.scope (lineOf ts) ts).eraseDups.length != (nmsOf env.scope (lineOf ts) ts).length) = true then pure none else
    if vs.all (foldedForSure 8) = true then pure none else
    if vs.all (constantsAlone 8) = true then (do unsupported "assign.tuple-of-constant-expressions:order-of-the-stores"; pure (some (nmsOf env.scope (lineOf ts) ts))) else
    pure (some (nmsOf env.scope (lineOf ts) ts))) := by
  rfl
def swNone (sc : Scope) (ts : List Expr) : Expr → Bool
  | .Tuple vs _ _ => !(ts.length == 2 || ts.length == 3) || vs.length != ts.length || (vs.any fun | .Starred .. => true | _ => false) || ((nmsOf sc (lineOf ts) ts).length != ts.length || (nmsOf sc (lineOf ts) ts).eraseDups.length != (nmsOf sc (lineOf ts) ts).length) || vs.all (foldedForSure 8)
  | _ => true
def swSome (sc : Scope) (ts vs : List Expr) (names : List Str) : Bool := !(!(ts.length == 2 || ts.length == 3) || vs.length != ts.length) && !(vs.any fun | .Starred .. => true | _ => false) &&
  !((nmsOf sc (lineOf ts) ts).length != ts.length || (nmsOf sc (lineOf ts) ts).eraseDups.length != (nmsOf sc (lineOf ts) ts).length) && !vs.all (foldedForSure 8) && !vs.all (constantsAlone 8) && decide (nmsOf sc (lineOf ts) ts = names)
theorem sw_none {env : Env} {sc : Scope} {ts : List Expr} {v : Expr} {k : Nat} {p : Pos} (h : swNone sc ts v = true) (he : env.scope = sc) (hk : env.blockKind = .function) : swappedStores [.Tuple ts k p] v env = pure none := by
  cases v with
  | Tuple vs k2 p2 =>
    rw [sw_form, he]
    simp only [swNone] at h
    by_cases c1 : (!(ts.length == 2 || ts.length == 3) || vs.length != ts.length || env.blockKind != .function) = true
    · rw [if_pos c1]
    · rw [if_neg c1]
      have c1' : (!(ts.length == 2 || ts.length == 3) || vs.length != ts.length) = false := by
        simp only [Bool.or_eq_true, not_or, Bool.not_eq_true] at c1
        rw [c1.1.1, c1.1.2]; rfl
      rw [c1', Bool.false_or] at h
      split
      · rfl
      · rename_i c2
        split
        · rfl
        · rename_i c3
          split
          · rfl
          · rename_i c4
            simp only [Bool.not_eq_true] at c2 c3 c4
            rw [c2, c3, c4] at h
            exact absurd h Bool.false_ne_true
  | _ => rfl
theorem sw_some {env : Env} {sc : Scope} {ts vs : List Expr} {names : List Str} {k : Nat} {p : Pos} {k2 : Nat} {p2 : Pos} (h : swSome sc ts vs names = true) (he : env.scope = sc) (hk : env.blockKind = .function) : swappedStores [.Tuple ts k p] (.Tuple vs k2 p2) env = pure (some names) := by
  unfold swSome at h
  simp only [Bool.and_eq_true, Bool.not_eq_true', decide_eq_true_eq] at h
  obtain ⟨⟨⟨⟨⟨c1, c2⟩, c3⟩, c4⟩, c5⟩, c6⟩ := h
  rw [sw_form, he, c1, hk, c2, c3, c4, c5, c6]
  rfl

def isComp : Expr → Bool
  | .ListComp _ _ _ _ => true
  | .SetComp _ _ _ _ => true
  | .DictComp _ _ _ _ _ => true
  | _ => false
/-- whether a list comprehension's value is stored within its frame -/
def swB (sc : Scope) (x : Str) (px : Pos) : Expr → Bool
  | .ListComp _ _ scope pos => decide (sc.names.lookup x = some .local) && (px.line == pos.line) && !(scope.names.any fun (n, k) => n == x && (k == .local || k == .cell))
  | _ => false
def locOk (N : List Str) (sc : Scope) (i : Nat) (x : Str) : Bool := decide (N[i]? = some x) && (decide (sc.names.lookup x = some .local) || decide (sc.names.lookup x = some .cell))
def isCmpr : E → Bool
  | .cmpr _ _ _ _ _ => true
  | _ => false
def nmAll (N : List Str) (sc : Scope) : List Nat → List Expr → Bool
  | [], [] => true
  | i :: is, .Name x _ :: xs => decide (N[i]? = some x) && decide (sc.names.lookup x = some .local) && nmAll N sc is xs
  | _, _ => false
def nmsX : List Expr → List Str
  | .Name x _ :: r => x :: nmsX r
  | _ => []
def distinct : List Nat → Bool
  | [] => true
  | i :: is => !is.contains i && distinct is

mutual
def mS (P : Prg) (N : List Str) (sc : Scope) : C → Stmt → Bool
  | .set i e, .Assign [.Name x px] v _ => locOk N sc i x && mE P N 0 sc e v && (if swB sc x px v then isCmpr e else !isComp v || decide (sc.names.lookup x = some .cell))
  | .own i e, .Assign [.Name x px] v _ => locOk N sc i x && mE P N 0 sc e v && isFr e && (if swB sc x px v then isCmpr e else !isComp v || decide (sc.names.lookup x = some .cell))
  | .unp tg e, .Assign [.Tuple ts k p] v _ => mTg true N sc tg (.Tuple ts k p) && mE P N 0 sc e v && swNone sc ts v
  | .par is es, .Assign [.Tuple ts _ _] (.Tuple vs _ _) _ => nmAll N sc is ts && distinct is && decide (2 ≤ is.length ∧ is.length ≤ 3) && mEs P N sc es vs && vs.all noStar && swSome sc ts vs (nmsX ts)
  | .put a i e, .Assign [.Subscript xa xi _] v _ => mE P N 0 sc a xa && mE P N 0 sc i xi && mE P N 0 sc e v && okIx xi
  | .aug i op e, .AugAssign (.Name x _) op' v _ => locOk N sc i x && decide (op = op') && decide (op = .Add ∨ op = .Sub) && mE P N 0 sc e v
  | .exp e, .Expr v _ => mE P N 0 sc e v && !isComp v
  | .app i e, .Expr (.Call (.Attribute (.Name x _) n ap) [v] [] cp) _ => decide (n = "append") && nmOk N sc i x && mE P N 0 sc e v && noStar v && (ap.endLine == cp.line)
  | .ext i e, .Expr (.Call (.Attribute (.Name x _) n ap) [v] [] cp) _ => decide (n = "extend") && nmOk N sc i x && mE P N 0 sc e v && noStar v && (ap.endLine == cp.line)
  | .ins i a b, .Expr (.Call (.Attribute (.Name x _) n ap) [va, vb] [] cp) _ => decide (n = "insert") && nmOk N sc i x && mE P N 0 sc a va && mE P N 0 sc b vb && noStar va && noStar vb && (ap.endLine == cp.line)
  | .par2 i a e j b f, .Assign [.Tuple ts _ _] (.Tuple vs _ _) _ => nmAll N sc [i, j] ts && distinct [i, j] && mEs P N sc [e, f] vs && vs.all noStar && (!a || isFr e) && (!b || isFr f) && swSome sc ts vs (nmsX ts)
  | .puto i k e, .Assign [.Subscript (.Name x _) xi _] v _ => nmOk N sc i x && mE P N 0 sc k xi && mE P N 0 sc e v && okIx xi
  | .insr i a b, .Expr (.Call (.Attribute (.Name x _) n ap) [va, vb] [] cp) _ => decide (n = "insert") && nmOk N sc i x && mE P N 0 sc a va && mE P N 0 sc b vb && noStar va && noStar vb && (ap.endLine == cp.line)
  | .lnd i f es, .Expr (.Call (.Name gn _) (.Name x _ :: xs) [] _) _ => match P.fns[f]? with
    | some g => glOk sc g.name gn && nmOk N sc i x && xs.all noStar && mEs P N sc es xs
    | none => false
  | .apop i j e, .Expr (.Call (.Attribute (.Name x _) n ap) [.Call (.Attribute (.Name y _) n2 ap2) [v] [] cp2] [] cp) _ => decide (n = "append") && decide (n2 = "pop") && nmOk N sc i x && nmOk N sc j y && mE P N 0 sc e v && noStar v && (ap.endLine == cp.line) && (ap2.endLine == cp2.line)
  | .spop (.nm i) j, .Assign [.Name x px] (.Call (.Attribute (.Name y _) n2 ap2) [] [] cp2) _ => decide (n2 = "pop") && locOk N sc i x && nmOk N sc j y && (ap2.endLine == cp2.line)
  | .spop (.tp tgs) j, .Assign [.Tuple ts k p] (.Call (.Attribute (.Name y yp) n2 ap2) [] [] cp2) _ => decide (n2 = "pop") && mTg true N sc (.tp tgs) (.Tuple ts k p) && nmOk N sc j y && (ap2.endLine == cp2.line)
  | .ite c a b, .If xc xa xb _ => mE P N 0 sc c xc && mB P N sc a xa && mB P N sc b xb
  | .for_ tg it b, .For xtg xit xb [] _ => mTg true N sc tg xtg && mE P N (if isTupX xtg then 3 else 2) sc it xit && !isSetX xit && mB P N sc b xb
  | .whl c b, .While xc xb [] _ => mE P N 0 sc c xc && mB P N sc b xb
  | .ret e, .Return v _ => match v with
    | some x => mE P N 0 sc e x
    | none => match e with
      | .cst .non => true
      | _ => false
  | .pas, .Pass _ => true
  | .brk, .Break _ => true
  | .cnt, .Continue _ => true
  | .bad, _ => true
  | .frz _ c, s => mS P N sc c s
  | _, _ => false
def mB (P : Prg) (N : List Str) (sc : Scope) : List C → List Stmt → Bool
  | [], [] => true
  | c :: cs, s :: ss => mS P N sc c s && mB P N sc cs ss
  | _, _ => false
end
end Pv

set_option Elab.async false
set_option linter.all false
set_option maxRecDepth 100000
set_option maxHeartbeats 8000000
/-! SndR: soundness of the check of statements. -/
namespace Pv
open PySem PySem.Spec PyProof.Rows L2

section
variable {P : Prg} {cf : Nat → List D → Sto → Option (D × Sto)} {fa : Nat → Addr} {Hs Gs : Hp} {Bs : List Addr} {X : Cx} {N : List Str} {sc : Scope}

/-- in a def's body -/
structure WdS (P : Prg) (cf : Nat → List D → Sto → Option (D × Sto)) (fa : Nat → Addr) (X : Cx) (N : List Str) (sc : Scope) : Prop where
  wd : Wd P cf fa X N sc
  fn : ∀ x, X.fn x = true
  knd : X.env.scope.kind = .function
  pas : PassesOwn (model X.prog X.w) X.A X.env X.xe
theorem WdS.blk (W : WdS P cf fa X N sc) : X.env.blockKind = .function := by
  unfold Env.blockKind
  rw [W.knd]
  rfl

theorem loc_of (W : WdS P cf fa X N sc) {i : Nat} {x : Str} (h : locOk N sc i x = true) : X.N[i]? = some x ∧ L2.Loc X.env.scope x := by
  unfold locOk at h
  simp only [Bool.and_eq_true, Bool.or_eq_true, decide_eq_true_eq] at h
  refine ⟨by rw [W.wd.hN]; exact h.1, ?_⟩
  unfold L2.Loc
  rw [W.wd.hsc]
  exact h.2
theorem sw_of {v : Expr} {t : Option Expr} {l : Nat} {env : Env} (h : isComp v = false) : swapsWith v t l env = pure false := by
  cases v <;> first | rfl | cases h
theorem sw_cell {elt : Expr} {gs : List Comprehension} {scope : Scope} {pos py : Pos} {y : Str} {l : Nat} {env : Env} (hk : env.blockKind = .function) (hy : env.scope.names.lookup y = some .cell) : swapsWith (.ListComp elt gs scope pos) (some (.Name y py)) l env = pure false := by
  have ky : env.kindOf y = some .cell := hy
  unfold swapsWith
  simp only [hk, ky]
  rfl
theorem sole_of {v tg : Expr} {l : Nat} {env : Env} (h : ∀ x p, tg ≠ .Name x p) : swapsWithSole [tg] v l env = pure false := by
  cases tg <;> first | exact absurd rfl (h _ _) | (cases v <;> rfl)

theorem comp_ok {H0 : Hp} (Ar : Arity P cf) (fnd : ∀ (j : Nat) (ds : List D) (S : Sto) (q : D × Sto), cf j ds S = some q → ∃ g, P.fns[j]? = some g) (W : Wd P cf fa X N sc) {m : Nat} {own : List Nat} {tg : Tg} {it elt : E} {ifs : List E} {x : Expr} (h : mE P N m sc (.cmpr own tg it ifs elt) x = true) :
    ∃ xtg xit xifs xelt scope p, x = .ListComp xelt [⟨xtg, xit, xifs, 0⟩] scope p ∧ (ownNm N own).map (·.2) = own ∧ CompOk P cf fa H0 X (ownNm N own) scope xtg xit xifs xelt tg it ifs elt := by
  cases x with
  | ListComp xelt gens scope p =>
    match gens, h with
    | [⟨xtg, xit, xifs, k⟩], h =>
      simp only [mE, Bool.and_eq_true, decide_eq_true_eq, Bool.not_eq_true'] at h
      obtain ⟨⟨⟨⟨⟨⟨⟨⟨⟨rfl, h1⟩, h2⟩, h3⟩, h4⟩, h5⟩, h6⟩, h7⟩, h8⟩, h9⟩ := h
      have hown : (ownNm N own).map (·.2) = own := by
        unfold ownNm
        rw [List.map_map]
        show own.map (fun i => i) = own
        exact List.map_id' own
      have hsl : ∀ i ∈ tg.slots, i ∈ (ownNm N own).map (·.2) := fun i hi => by
        rw [hown]
        have := List.all_eq_true.mp h3 i hi
        simpa using this
      have hfs : ∀ x, foldedSetIterable xit X.env x = pure x := by
        intro y
        cases xit <;> first | rfl | cases h8
      refine ⟨xtg, xit, xifs, xelt, scope, p, rfl, hown, {
        it := (good Ar fnd it H0 X sc _ xit W h5).iv xtg (by split <;> omega) (fun e => by
          by_cases hh : isTupX xtg = true
          · exact hh
          · rw [if_neg hh] at e; omega)
        ok := by rw [W.hN, W.hsc]; exact blkOk_by h1
        one := h4
        slots := hsl
        tg := fun s H C cl fp => pg_of (c := false) (W.blk s H scope C cl fp) (fun z => nomatch z) tg xtg h2
        ifs := fun s H C cl fp => by
          match ifs, xifs, h4, h6, h9 with
          | [], xs, _, h6, _ =>
            rw [mEs_none h6]
            exact pts_nil
          | [e], xs, _, h6, ns =>
            obtain ⟨y, ys, rfl, a1, a2, a3, a4, a5⟩ := mEs_cons h6 ns
            rw [mEs_none a5]
            exact pts_one ((good Ar fnd e H0 _ _ 0 y (W.blk s H scope C cl fp) a2).tv rfl).a
          | _ :: _ :: _, _, h4, _, _ => exact absurd h4 (by simp)
        elt := fun s H C cl fp => (good Ar fnd elt H0 _ _ 0 xelt (W.blk s H scope C cl fp) h7).ev rfl
        fs := hfs }⟩
    | [], h => exact absurd h (by simp [mE])
    | _ :: _ :: _, h => exact absurd h (by simp [mE])
  | _ => cases h

/-- x = v, the value -/
theorem ps_setE {H0 : Hp} (Ar : Arity P cf) (fnd : ∀ (j : Nat) (ds : List D) (S : Sto) (q : D × Sto), cf j ds S = some q → ∃ g, P.fns[j]? = some g) (W : WdS P cf fa X N sc) {i : Nat} {x : Str} {px p : Pos} {e : E} {v : Expr} (h1 : locOk N sc i x = true) (h2 : mE P N 0 sc e v = true)
    (h3 : (if swB sc x px v then isCmpr e else !isComp v || decide (sc.names.lookup x = some .cell)) = true) :
    PS X (.Assign [.Name x px] v p) (tAsg (AE P cf fa H0 X.K e) (gName i)) ∧ (isFr e = true → PS X (.Assign [.Name x px] v p) (tAsg (AF X.K fa H0 P cf e) (gName i))) := by
  obtain ⟨hi, hx⟩ := loc_of W h1
  have nd : X.N.Nodup := by rw [W.wd.hN]; exact W.wd.nd
  have g := good Ar fnd e H0 X sc 0 v W.wd h2
  by_cases hb : swB sc x px v = true
  · rw [if_pos hb] at h3
    cases e <;> first | (exact absurd h3 Bool.false_ne_true) | skip
    rename_i own tg it ifs elt
    obtain ⟨xtg, xit, xifs, xelt, scope, p2, rfl, hown, c⟩ := comp_ok (H0 := H0) Ar fnd W.wd h2
    unfold swB at hb
    simp only [Bool.and_eq_true, decide_eq_true_eq, Bool.not_eq_true'] at hb
    obtain ⟨⟨b1, b2⟩, b3⟩ := hb
    have hl : X.env.scope.names.lookup x = some .local := by rw [W.wd.hsc]; exact b1
    have key := ps_setLc (spos := p) (py := px) (te := AE P cf fa H0 X.K elt) W.wd.calm nd hi hl (sw_true W.knd hl b2 b3) c.it c.ok c.tg c.ifs (fun s H C cl fp => (c.elt s H C cl fp).a) c.fs
    have rd : ∀ {r S d S'}, evE P cf (.cmpr own tg it ifs elt) r S = some (d, S') → ∃ ds, d = .lst ds ∧ ∀ σ H Q, TF fa H0 X.K r S ds S' σ H Q → tLc (AI P cf fa H0 X.K it) (gTg X.K tg) (AIfs P cf fa H0 X.K ifs) (AE P cf fa H0 X.K elt) ((ownNm N own).map (·.2)) σ H Q := fun {r S d S'} hv =>
      comp_read (X := X) (fa := fa) (H0 := H0) c.one c.slots (by rw [hown]; exact hv)
    refine ⟨key.wk fun D σ H ⟨r, S, d, S', hv, q⟩ => ?_, fun _ => key.wk fun D σ H ⟨r, S, ds, S', hv, q⟩ => ?_⟩
    · obtain ⟨ds, rfl, k⟩ := rd hv
      obtain ⟨G, B, R, RS, q⟩ := q
      refine k σ H _ ⟨G, B, R, RS, fun p vs H' G' B' hp st rs dt => ?_⟩
      obtain ⟨st2, rs2⟩ := rs.lay (o := .lst vs) hp
      exact q _ _ _ _ (st.trans st2) rs2 ⟨p, vs, rfl, upd_same, st2.dats dt⟩
    · obtain ⟨ds', e', k⟩ := rd hv
      cases e'
      exact k σ H _ q
  · rw [if_neg hb] at h3
    have hs : swapsWith v (some (.Name x px)) p.line X.env = pure false := by
      rw [Bool.or_eq_true] at h3
      rcases h3 with h3 | h3
      · exact sw_of (by simpa using h3)
      · have hc : X.env.scope.names.lookup x = some .cell := by rw [W.wd.hsc]; exact of_decide_eq_true h3
        cases v with
        | ListComp a b c d => exact sw_cell W.blk hc
        | SetComp a b c d =>
          have ky : X.env.kindOf x = some .cell := hc
          unfold swapsWith
          simp only [W.blk, ky]
          rfl
        | DictComp a b c d f =>
          have ky : X.env.kindOf x = some .cell := hc
          unfold swapsWith
          simp only [W.blk, ky]
          rfl
        | _ => rfl
    exact ⟨ps_set nd hi hx (g.ev rfl).a hs (.inl (W.fn x)), fun hf => ps_set nd hi hx (g.fv rfl hf).a hs (.inl (W.fn x))⟩

theorem asg_sub {o i : Expr} {pos : Pos} (h : okIx i = true) (v : Value) : assign (.Subscript o i pos) X.env v = (do
      let ov ← holding [v] (eval o X.env)
      let iv ← holding [v, ov] (eval i X.env)
      standAt pos
      holding [v, ov, iv] (setItem ov iv v)
      release [v, ov, iv] []) := by
  cases i <;> first | rfl | cases h
theorem nm_all (W : WdS P cf fa X N sc) : ∀ (is : List Nat) (xs : List Expr), nmAll N sc is xs = true → xs.length = is.length ∧ ∀ (k i : Nat), is[k]? = some i → ∃ x p, xs[k]? = some (.Name x p) ∧ X.N[i]? = some x ∧ X.env.scope.names.lookup x = some .local
  | [], [], _ => ⟨rfl, fun k i h => by simp at h⟩
  | [], _ :: _, h => by simp only [nmAll] at h; cases h
  | i :: is, [], h => by simp only [nmAll] at h; cases h
  | i :: is, y :: ys, h => by
    cases y with
    | Name x p =>
      simp only [nmAll, Bool.and_eq_true, decide_eq_true_eq] at h
      obtain ⟨l, r⟩ := nm_all W is ys h.2
      refine ⟨by rw [List.length_cons, List.length_cons, l], fun k j hk => ?_⟩
      cases k with
      | zero =>
        simp at hk
        subst hk
        exact ⟨x, p, rfl, by rw [W.wd.hN]; exact h.1.1, by rw [W.wd.hsc]; exact h.1.2⟩
      | succ k =>
        simp at hk
        obtain ⟨x, p, e1, e2⟩ := r k j hk
        exact ⟨x, p, by simpa using e1, e2⟩
    | _ => simp only [nmAll] at h; cases h

variable (P cf fa) in
def GoodS (Ar : Arity P cf) (N : List Str) (c : C) : Prop := ∀ (Hs Gs : Hp) (Bs : List Addr) (X : Cx) (sc : Scope) (st : Stmt), WdS P cf fa X N sc → mS P N sc c st = true → SS P cf fa Hs Gs Bs X st c
theorem good_b {Ar : Arity P cf} {n : Nat} (ih : ∀ c : C, sizeOf c < n → GoodS P cf fa Ar N c) : ∀ (cs : List C), sizeOf cs ≤ n → ∀ (Hs Gs : Hp) (Bs : List Addr) (X : Cx) (sc : Scope) (sts : List Stmt), WdS P cf fa X N sc → mB P N sc cs sts = true → SSs P cf fa Hs Gs Bs X sts cs
  | [], _, Hs, Gs, Bs, X, sc, sts, W, h => by
    cases sts with
    | nil => exact sb_nil
    | cons _ _ => simp only [mB] at h; cases h
  | c :: cs, hs, Hs, Gs, Bs, X, sc, sts, W, h => by
    cases sts with
    | nil => simp only [mB] at h; cases h
    | cons s ss =>
      simp only [mB, Bool.and_eq_true] at h
      exact sb_cons (ih c (by simp at hs; omega) Hs Gs Bs X sc s W h.1) (good_b ih cs (by simp at hs; omega) Hs Gs Bs X sc ss W h.2)

theorem good_s (Ar : Arity P cf) (fnd : ∀ (j : Nat) (ds : List D) (S : Sto) (q : D × Sto), cf j ds S = some q → ∃ g, P.fns[j]? = some g) : ∀ n : Nat, ∀ c : C, sizeOf c < n → GoodS P cf fa Ar N c := by
  intro n
  induction n with
  | zero => intro e h; exact absurd h (Nat.not_lt_zero _)
  | succ n ih =>
    intro c hs Hs Gs Bs X sc st W h
    have gd : ∀ (e : E) {x : Expr} {m : Nat}, mE P N m sc e x = true → Res P cf fa Hs X m e x := fun e {x m} hm => good Ar fnd e Hs X sc m x W.wd hm
    have gb : ∀ {b : List C}, sizeOf b < sizeOf c → ∀ (sts : List Stmt), mB P N sc b sts = true → SSs P cf fa Hs Gs Bs X sts b := fun {b} hb sts hm => good_b (n := n) ih b (by omega) Hs Gs Bs X sc sts W hm
    have nd : X.N.Nodup := by rw [W.wd.hN]; exact W.wd.nd
    unfold mS at h
    split at h
    · -- set
      simp only [Bool.and_eq_true] at h
      exact ss_set (ps_setE Ar fnd W h.1.1 h.1.2 h.2).1
    · -- own
      simp only [Bool.and_eq_true] at h
      exact ss_own ((ps_setE Ar fnd W h.1.1.1 h.1.1.2 h.2).2 h.1.2)
    · -- unp
      simp only [Bool.and_eq_true] at h
      exact ss_unp (ps_asg ((gd _ h.1.2).ev rfl).a (pg_of W.wd (fun _ => W.fn) _ _ h.1.1) (sole_of fun _ _ z => nomatch z) (sw_none h.2 W.wd.hsc W.blk))
    · -- par
      rename_i is es ts k1 p1 vs k2 p2 p3
      simp only [Bool.and_eq_true, decide_eq_true_eq] at h
      obtain ⟨⟨⟨⟨⟨h1, h2⟩, h3⟩, h4⟩, h5⟩, h6⟩ := h
      obtain ⟨ln, hn⟩ := nm_all W is ts h1
      have hw := sw_some (k := k1) (p := p1) (k2 := k2) (p2 := p2) h6 W.wd.hsc W.blk
      clear hs gb
      match is, h2, h3, ln, hn with
      | [i, j], h2, _, ln, hn =>
        match ts, ln with
        | [t1, t2], _ =>
          obtain ⟨x, q1, e1, a1, a2⟩ := hn 0 i rfl
          obtain ⟨y, q2, e2, b1, b2⟩ := hn 1 j rfl
          have e1' : t1 = .Name x q1 := by simpa using e1
          have e2' : t2 = .Name y q2 := by simpa using e2
          subst e1' e2'
          have hij : i ≠ j := by
            simp only [distinct, Bool.and_eq_true] at h2
            intro z
            subst z
            simp at h2
          match es, vs, h4, h5, hw with
          | [e1, e2], vs, h4, h5, hw =>
            obtain ⟨v1, r1, rfl, c1, c2, c3, c4, c5⟩ := mEs_cons h4 h5
            obtain ⟨v2, r2, rfl, d1, d2, d3, d4, d5⟩ := mEs_cons c5 c4
            obtain rfl := mEs_none d5
            have sa : SA P cf fa Hs X [v1, v2] [e1, e2] := sa_cons c3 c1 ((gd _ c2).ev rfl) (sa_cons d3 d1 ((gd _ d2).ev rfl) sa_nil)
            exact ss_par2 (ps_par W.wd.calm nd a1 b1 hij a2 b2 sa.a hw)
          | [], vs, h4, h5, hw =>
            obtain rfl := mEs_none h4
            exact absurd h6 (by simp [swSome])
          | [e1], vs, h4, h5, hw =>
            obtain ⟨v1, r1, rfl, c1, c2, c3, c4, c5⟩ := mEs_cons h4 h5
            obtain rfl := mEs_none c5
            exact absurd h6 (by simp [swSome])
          | e1 :: e2 :: e3 :: er, vs, h4, h5, hw =>
            obtain ⟨v1, r1, rfl, c1, c2, c3, c4, c5⟩ := mEs_cons h4 h5
            obtain ⟨v2, r2, rfl, d1, d2, d3, d4, d5⟩ := mEs_cons c5 c4
            obtain ⟨v3, r3, rfl, f1, f2, f3, f4, f5⟩ := mEs_cons d5 d4
            exact absurd h6 (by simp [swSome])
      | [i, j, l], h2, _, ln, hn =>
        match ts, ln with
        | [t1, t2, t3], _ =>
          obtain ⟨x, q1, e1, a1, a2⟩ := hn 0 i rfl
          obtain ⟨y, q2, e2, b1, b2⟩ := hn 1 j rfl
          obtain ⟨z, q3, e3, g1, g2⟩ := hn 2 l rfl
          have e1' : t1 = .Name x q1 := by simpa using e1
          have e2' : t2 = .Name y q2 := by simpa using e2
          have e3' : t3 = .Name z q3 := by simpa using e3
          subst e1' e2' e3'
          have hd : i ≠ j ∧ i ≠ l ∧ j ≠ l := by
            simp only [distinct, Bool.and_eq_true] at h2
            refine ⟨fun z => ?_, fun z => ?_, fun z => ?_⟩ <;> (subst z; simp at h2)
          match es, vs, h4, h5, hw with
          | [e1, e2, e3], vs, h4, h5, hw =>
            obtain ⟨v1, r1, rfl, c1, c2, c3, c4, c5⟩ := mEs_cons h4 h5
            obtain ⟨v2, r2, rfl, d1, d2, d3, d4, d5⟩ := mEs_cons c5 c4
            obtain ⟨v3, r3, rfl, f1, f2, f3, f4, f5⟩ := mEs_cons d5 d4
            obtain rfl := mEs_none f5
            have sa : SA P cf fa Hs X [v1, v2, v3] [e1, e2, e3] := sa_cons c3 c1 ((gd _ c2).ev rfl) (sa_cons d3 d1 ((gd _ d2).ev rfl) (sa_cons f3 f1 ((gd _ f2).ev rfl) sa_nil))
            exact ss_par3 (ps_par3 W.wd.calm nd a1 b1 g1 hd.1 hd.2.1 hd.2.2 a2 b2 g2 sa.a hw)
          | [], vs, h4, h5, hw =>
            obtain rfl := mEs_none h4
            exact absurd h6 (by simp [swSome])
          | [e1], vs, h4, h5, hw =>
            obtain ⟨v1, r1, rfl, c1, c2, c3, c4, c5⟩ := mEs_cons h4 h5
            obtain rfl := mEs_none c5
            exact absurd h6 (by simp [swSome])
          | [e1, e2], vs, h4, h5, hw =>
            obtain ⟨v1, r1, rfl, c1, c2, c3, c4, c5⟩ := mEs_cons h4 h5
            obtain ⟨v2, r2, rfl, d1, d2, d3, d4, d5⟩ := mEs_cons c5 c4
            obtain rfl := mEs_none d5
            exact absurd h6 (by simp [swSome])
          | e1 :: e2 :: e3 :: e4 :: er, vs, h4, h5, hw =>
            obtain ⟨v1, r1, rfl, c1, c2, c3, c4, c5⟩ := mEs_cons h4 h5
            obtain ⟨v2, r2, rfl, d1, d2, d3, d4, d5⟩ := mEs_cons c5 c4
            obtain ⟨v3, r3, rfl, f1, f2, f3, f4, f5⟩ := mEs_cons d5 d4
            obtain ⟨v4, r4, rfl, _⟩ := mEs_cons f5 f4
            exact absurd h6 (by simp [swSome])
      | [], _, h3, _, _ => exact absurd h3.1 (by simp)
      | [_], _, h3, _, _ => exact absurd h3.1 (by simp)
      | _ :: _ :: _ :: _ :: _, _, h3, _, _ => exact absurd h3.2 (by simp)
    · -- put
      simp only [Bool.and_eq_true] at h
      exact ss_put (ps_asg ((gd _ h.1.2).ev rfl).a (pg_sub ((gd _ h.1.1.1).ev rfl).a ((gd _ h.1.1.2).ev rfl).a set_list (asg_sub h.2)) (sole_of fun _ _ z => nomatch z))
    · -- aug
      rename_i i op e x px op' v p
      simp only [Bool.and_eq_true, decide_eq_true_eq] at h
      obtain ⟨⟨⟨h1, rfl⟩, h3⟩, h4⟩ := h
      obtain ⟨hi, hx⟩ := loc_of W h1
      rcases h3 with rfl | rfl
      · exact ss_aug (.inl ⟨rfl, rfl⟩) (ps_aug nd hi hx ((gd _ h4).ev rfl).a ip_add (.inl (W.fn x)))
      · exact ss_aug (.inr ⟨rfl, rfl⟩) (ps_aug nd hi hx ((gd _ h4).ev rfl).a ip_sub (.inl (W.fn x)))
    · -- exp
      simp only [Bool.and_eq_true, Bool.not_eq_true'] at h
      exact ss_exp (ps_expr ((gd _ h.1).ev rfl).a (sw_of h.2))
    · -- app
      rename_i i e x px n ap v cp p
      simp only [Bool.and_eq_true, decide_eq_true_eq] at h
      obtain ⟨⟨⟨⟨rfl, h1⟩, h2⟩, h3⟩, h4⟩ := h
      obtain ⟨n1, n2, n3, n4⟩ := nmOk_of W.wd h1
      have hst := star_of (X := X) (es := []) h3
      exact ss_app (ps_expr (pe_bm PySem.F.plainAttrs_list PySem.F.slot_list_append PySem.F.type_list_append mt_append (pe_var n1 n2 n3 n4) (pa_cons ((gd _ h2).ev rfl).a pa_nil hst) rfl (by rw [hst]; rfl) h4 hst rfl) rfl)
    · -- ext
      rename_i i e x px n ap v cp p _
      simp only [Bool.and_eq_true, decide_eq_true_eq] at h
      obtain ⟨⟨⟨⟨rfl, h1⟩, h2⟩, h3⟩, h4⟩ := h
      obtain ⟨n1, n2, n3, n4⟩ := nmOk_of W.wd h1
      have hst := star_of (X := X) (es := []) h3
      exact ss_ext (ps_expr (pe_bm PySem.F.plainAttrs_list PySem.F.slot_list_extend PySem.F.type_list_extend mt_extend (pe_var n1 n2 n3 n4) (pa_cons ((gd _ h2).ev rfl).a pa_nil hst) rfl (by rw [hst]; rfl) h4 hst rfl) rfl)
    · -- ins
      rename_i i a b x px n ap va vb cp p
      simp only [Bool.and_eq_true, decide_eq_true_eq] at h
      obtain ⟨⟨⟨⟨⟨⟨rfl, h1⟩, h2⟩, h3⟩, h4⟩, h5⟩, h6⟩ := h
      obtain ⟨n1, n2, n3, n4⟩ := nmOk_of W.wd h1
      have hst := star_of (X := X) (es := [vb]) h4
      have hst2 := star_of (X := X) (es := []) h5
      exact ss_ins (ps_expr (pe_bm PySem.F.plainAttrs_list PySem.F.slot_list_insert PySem.F.type_list_insert mt_insert (pe_var n1 n2 n3 n4) (pa_cons ((gd _ h2).ev rfl).a (pa_cons ((gd _ h3).ev rfl).a pa_nil hst2) hst) rfl (by rw [hst, hst2]; rfl) h6 hst (by rw [hst2]; rfl)) rfl)
    · -- par2
      rename_i i a e j b f ts k1 p1 vs k2 p2 p3
      simp only [Bool.and_eq_true] at h
      obtain ⟨⟨⟨⟨⟨⟨h1, h2⟩, h4⟩, h5⟩, f1⟩, f2⟩, h6⟩ := h
      obtain ⟨ln, hn⟩ := nm_all W [i, j] ts h1
      have hw := sw_some (k := k1) (p := p1) (k2 := k2) (p2 := p2) h6 W.wd.hsc W.blk
      match ts, ln with
      | [t1, t2], _ =>
        obtain ⟨x, q1, e1, a1, a2⟩ := hn 0 i rfl
        obtain ⟨y, q2, e2, b1, b2⟩ := hn 1 j rfl
        have e1' : t1 = .Name x q1 := by simpa using e1
        have e2' : t2 = .Name y q2 := by simpa using e2
        subst e1' e2'
        have hij : i ≠ j := by
          simp only [distinct, Bool.and_eq_true] at h2
          intro z
          subst z
          simp at h2
        obtain ⟨v1, r1, rfl, c1, c2, c3, c4, c5⟩ := mEs_cons h4 h5
        obtain ⟨v2, r2, rfl, d1, d2, d3, d4, d5⟩ := mEs_cons c5 c4
        obtain rfl := mEs_none d5
        have pg : ∀ (own : Bool) (e : E) (v : Expr), mE P N 0 sc e v = true → (!own || isFr e) = true → PE X v (AG P cf fa Hs X.K own e) := fun own e v hm hf => by
          cases own with
          | false => exact ((gd e hm).ev rfl).a
          | true => exact ((gd e hm).fv rfl (by simpa using hf)).a
        exact ss_par2x (ps_par W.wd.calm nd a1 b1 hij a2 b2 (pa_cons (pg a e v1 c2 f1) (pa_cons (pg b f v2 d2 f2) pa_nil (star_of d1)) (star_of c1)) hw)
    · -- puto
      simp only [Bool.and_eq_true] at h
      obtain ⟨⟨⟨h1, h2⟩, h3⟩, h4⟩ := h
      obtain ⟨n1, n2, n3, n4⟩ := nmOk_of W.wd h1
      exact ss_puto (ps_asg ((gd _ h3).ev rfl).a (pg_sub (pe_var n1 n2 n3 n4) ((gd _ h2).ev rfl).a set_list (asg_sub h4)) (sole_of fun _ _ z => nomatch z))
    · -- insr
      rename_i i a b x px n ap va vb cp p
      simp only [Bool.and_eq_true, decide_eq_true_eq] at h
      obtain ⟨⟨⟨⟨⟨⟨rfl, h1⟩, h2⟩, h3⟩, h4⟩, h5⟩, h6⟩ := h
      obtain ⟨n1, n2, n3, n4⟩ := nmOk_of W.wd h1
      have hst := star_of (X := X) (es := [vb]) h4
      have hst2 := star_of (X := X) (es := []) h5
      exact ss_insr (ps_expr (pe_bm PySem.F.plainAttrs_list PySem.F.slot_list_insert PySem.F.type_list_insert mt_insert (pe_var n1 n2 n3 n4) (pa_cons ((gd _ h2).ev rfl).a (pa_cons ((gd _ h3).ev rfl).a pa_nil hst2) hst) rfl (by rw [hst, hst2]; rfl) h6 hst (by rw [hst2]; rfl)) rfl)
    · -- lnd
      rename_i i f es gn gp x px xs cp p
      split at h
      · rename_i g hj
        simp only [Bool.and_eq_true] at h
        obtain ⟨⟨⟨h1, h2⟩, h3⟩, h4⟩ := h
        obtain ⟨e1, g1, g2⟩ := glOk_of W.wd h1
        subst e1
        obtain ⟨n1, n2, n3, n4⟩ := nmOk_of W.wd h2
        have sa : SA P cf fa Hs X xs es := good_es (n := sizeOf es) (fun e _ => good Ar fnd e) es (Nat.le_refl _) Hs X sc xs W.wd h4
        exact ss_lnd (ps_expr (s_lnd W.wd Ar hj g1 g2 n1 n2 n3 n4 h3 sa) rfl)
      · cases h
    · -- apop
      rename_i i j e x px n ap y py n2 ap2 v cp2 cp p
      simp only [Bool.and_eq_true, decide_eq_true_eq] at h
      obtain ⟨⟨⟨⟨⟨⟨⟨rfl, rfl⟩, h1⟩, h2⟩, h3⟩, h4⟩, h5⟩, h6⟩ := h
      obtain ⟨n1, n2, n3, n4⟩ := nmOk_of W.wd h1
      obtain ⟨k1, k2, k3, k4⟩ := nmOk_of W.wd h2
      have hst := star_of (X := X) (es := []) h4
      have inner := pe_bm PySem.F.plainAttrs_list PySem.F.slot_list_pop PySem.F.type_list_pop mt_popAt (pe_var (pos := py) k1 k2 k3 k4) (pa_cons ((gd _ h3).ev rfl).a pa_nil hst) rfl (by rw [hst]; rfl) h6 hst rfl
      exact ss_apop (ps_expr (pe_bm PySem.F.plainAttrs_list PySem.F.slot_list_append PySem.F.type_list_append mt_append (pe_var n1 n2 n3 n4) (pa_cons inner pa_nil rfl) rfl rfl h5 rfl rfl) rfl)
    · -- spop, a name
      rename_i i j x px y py n2 ap2 cp2 p
      simp only [Bool.and_eq_true, decide_eq_true_eq] at h
      obtain ⟨⟨⟨rfl, h1⟩, h2⟩, h3⟩ := h
      obtain ⟨hi, hx⟩ := loc_of W h1
      obtain ⟨k1, k2, k3, k4⟩ := nmOk_of W.wd h2
      exact ss_spop ((ps_set nd hi hx (pe_bm0 PySem.F.plainAttrs_list PySem.F.slot_list_pop PySem.F.type_list_pop mt_pop (pe_var k1 k2 k3 k4) rfl h3) rfl (.inl (W.fn x))).wk fun D σ H q => q)
    · -- spop, names
      rename_i tgs j ts k p y yp n2 ap2 cp2 p2
      simp only [Bool.and_eq_true, decide_eq_true_eq] at h
      obtain ⟨⟨⟨rfl, h1⟩, h2⟩, h3⟩ := h
      obtain ⟨k1, k2, k3, k4⟩ := nmOk_of W.wd h2
      exact ss_spop (ps_asg (pe_bm0 PySem.F.plainAttrs_list PySem.F.slot_list_pop PySem.F.type_list_pop mt_pop (pe_var k1 k2 k3 k4) rfl h3) (pg_of W.wd (fun _ => W.fn) _ _ h1) (sole_of fun _ _ z => nomatch z) rfl)
    · -- ite
      rename_i c a b xc xa xb p
      simp only [Bool.and_eq_true] at h
      exact ss_ite (ps_if ((gd _ h.1.1).tv rfl).a (gb (by simp <;> omega) _ h.1.2) (gb (by simp <;> omega) _ h.2))
    · -- for
      rename_i tg it b xtg xit xb p
      simp only [Bool.and_eq_true, Bool.not_eq_true'] at h
      obtain ⟨⟨⟨h1, h2⟩, h3⟩, h4⟩ := h
      have hfs : ∀ x, foldedSetIterable xit X.env x = pure x := by
        intro y
        cases xit <;> first | rfl | cases h3
      exact ss_for (ps_for W.pas W.wd.calm ((gd it h2).iv xtg (by split <;> omega) (fun e => by
          by_cases hh : isTupX xtg = true
          · exact hh
          · rw [if_neg hh] at e; omega)) (pg_of W.wd (fun _ => W.fn) tg xtg h1) (gb (by simp <;> omega) _ h4) hfs)
    · -- while
      simp only [Bool.and_eq_true] at h
      exact ss_whl (ps_while W.pas ((gd _ h.1).tv rfl).a (gb (by simp <;> omega) _ h.2))
    · -- return
      split at h
      · exact ss_ret (ps_ret ((gd _ h).ev rfl).a)
      · split at h
        · refine ss_ret (PS.wk ps_retN fun D σ H ⟨r, S, d, S', hv, G, B, R, RS, q⟩ => ?_)
          have e : (Pv.D.non, S) = (d, S') := Option.some.inj (by simpa only [evE] using hv)
          cases e
          exact q .non H G B .refl RS rfl
        · cases h
    · exact ss_pas ps_pass
    · exact ss_brk ps_break
    · exact ss_cnt ps_continue
    · exact ss_bad
    · exact ss_frz (ih _ (by simp at hs; omega) Hs Gs Bs X sc _ W h)
    · cases h
theorem goodS (Ar : Arity P cf) (fnd : ∀ (j : Nat) (ds : List D) (S : Sto) (q : D × Sto), cf j ds S = some q → ∃ g, P.fns[j]? = some g) (cs : List C) (Hs Gs : Hp) (Bs : List Addr) (X : Cx) (sc : Scope) (sts : List Stmt) (W : WdS P cf fa X N sc) (h : mB P N sc cs sts = true) : SSs P cf fa Hs Gs Bs X sts cs :=
  good_b (Ar := Ar) (n := sizeOf cs) (fun c _ => good_s Ar fnd (sizeOf c + 1) c (Nat.lt_succ_self _)) cs (Nat.le_refl _) Hs Gs Bs X sc sts W h
end
end Pv

set_option Elab.async false
set_option linter.all false
set_option maxRecDepth 100000
set_option maxHeartbeats 8000000
/-! SndT: each def does what the evaluator says. -/
namespace Pv
open PySem PySem.Spec PyProof.Rows L2

section
variable {K : PySem.W.Frag} {fa : Nat → Addr} {H G H' G' : Hp} {B B' : List Addr} {S S' : Sto}
theorem take_pre (s : Stp H G B H' G' B') : B'.take B.length = B := by
  obtain ⟨C, rfl, _⟩ := s.pre
  simp
theorem Stp.cut (s : Stp H G B H' G' B') : Stp H G B H' G' B := ⟨s.keep, s.liv, s.sub, s.fr, [], by simp, by simp⟩
theorem RelH.cut (R : RelH K fa S H G B) (n : Nat) : RelH K fa (S.take n) H G (B.take n) := by
  refine ⟨R.sub, by rw [List.length_take, List.length_take, R.len], R.nd.sublist (List.take_sublist _ _), fun m ds e => ?_⟩
  have hm : m < n := by
    have := (List.getElem?_eq_some_iff.mp e).1
    rw [List.length_take] at this
    omega
  rw [List.getElem?_take_of_lt hm] at e
  obtain ⟨a, vs, e1, e2, e3, e4, e5⟩ := R.at_ m ds e
  exact ⟨a, vs, by rw [List.getElem?_take_of_lt hm]; exact e1, e2, e3, Dats.nob ds vs e5 e4, e5⟩
/-- what stands at the end of a def -/
theorem endF_ok {np : Nat} {o : Out} {d : D} {S0 : Sto} {Q : VK} (hl : B.length = S0.length) (he : endF S0.length (some (o, S)) = some (d, S'))
    (q : ∀ v H' G' B', Stp H G B H' G' B' → RelH K fa S' H' G' B' → Dat K fa G' B' v d → Q v H') {r : Rho} : ContS K fa H G B G B { nx := fun _ H' => Q .non H', rt := Q } S o := by
  cases o with
  | nx r' =>
    intro σ' H1 ⟨G1, B1, st, RR, RS⟩
    have he' : some (D.non, S.take S0.length) = some (d, S') := he
    cases he'
    refine q .non H1 G1 B st.1.cut ?_ rfl
    have := RS.cut S0.length
    rw [← hl, take_pre st.1] at this
    rw [← hl]
    exact this
  | rt d1 =>
    intro v H1 G1 B1 st RS dt
    simp only [endF] at he
    split at he
    · rename_i hp
      cases he
      refine q v H1 G1 B st.cut ?_ (Dat.nob _ v hp dt)
      have := RS.cut S0.length
      rw [← hl, take_pre st] at this
      rw [← hl]
      exact this
    · cases d1 with
      | ref m =>
        simp only at he
        split at he
        · cases he
          exact q v H1 G1 B1 st RS dt
        · cases he
      | _ => cases he
  | bk r' => cases he
  | ct r' => cases he
theorem start_ok {N : List Str} {np : Nat} {ds : List D} {vs : List V} (hd : Dats K fa G B vs ds) (hn : ds.length = np) : RelR K fa H (ds.map (fun d => some (false, d)) ++ List.replicate (N.length - np) none) (start N vs) H G B := by
  have hl := Dats.length ds vs hd
  refine ⟨?_, fun i own d e => ?_, fun i j d e e1 => ?_⟩
  · unfold L2.start
    rw [List.length_append, List.length_append, List.length_map, List.length_map, List.length_replicate, List.length_replicate, hl, hn]
  · have hi : i < ds.length := by
      by_cases hi : i < ds.length
      · exact hi
      · rw [List.getElem?_append_right (by rw [List.length_map]; omega), List.getElem?_replicate] at e
        split at e <;> cases e
    rw [List.getElem?_append_left (by rw [List.length_map]; exact hi), List.getElem?_map] at e
    obtain ⟨d1, e1, e2⟩ := Option.map_eq_some_iff.mp e
    cases e2
    obtain ⟨v, e3, e4⟩ := Dats.get hd e1
    refine ⟨v, ?_, e4⟩
    unfold L2.start
    rw [List.getElem?_append_left (by rw [List.length_map]; omega), List.getElem?_map, e3]
    rfl
  · have hi : i < ds.length := by
      by_cases hi : i < ds.length
      · exact hi
      · rw [List.getElem?_append_right (by rw [List.length_map]; omega), List.getElem?_replicate] at e1
        split at e1 <;> cases e1
    rw [List.getElem?_append_left (by rw [List.length_map]; exact hi), List.getElem?_map] at e1
    obtain ⟨d1, _, e2⟩ := Option.map_eq_some_iff.mp e1
    cases e2
end

/-! ### a def, run where no guard stands -/
section
variable {prog : Program} {wd : World} {K : PySem.W.Frag} {mg : Str → Option Value} {base : Heap} {f : Addr} {fd : FuncData}
theorem fnG_of {k : Nat} {nm qu : Str} {pms : Arguments} {bdy : List Stmt} {scp : Scope} {dfl : List V} {kwd : List (Str × V)} {N ps : List Str} {sp : SpG} (F : FunD K nm qu pms bdy scp dfl kwd f fd) (FS : FnScope N ps scp)
    (len : ∀ vs H Q, sp vs H Q → vs.length = ps.length)
    (hb : ∀ (cd : Value) (A : Around) (out : List Env) (s : Shared) (H : Hp) (vs : List V) (Q : VK), Room k (A.deeper (envOfC qu scp s.heap.objs.size f cd)) → A.guards = some [] → sp vs H Q →
      ∃ t, PSs (cxOf CX0 prog wd K mg base N qu scp f cd A out s H E0) bdy t ∧ t { nx := fun _ H1 => Q .non H1, rt := Q } (start N vs) H) : FnG prog wd K mg base (k + 1) f fd ps sp := by
  refine ⟨len, fun A out s H args us vs Q hr hg e0 hbi r hsp => ?_⟩
  obtain ⟨oc, od, dV, kV, doc, pm, an, cd, ct, osl, rfl, lk, hcd, _, _⟩ := F.ex
  have hl := len _ _ _ hsp
  have kin : K.In s.heap := e0.mod.kin.keeps fun b o z => (e0.bs b o z).1
  have nol : s.heap.NoLimit := e0.mod.nolimit.keeps fun b o z => (e0.bs b o z).1
  have hk : ∀ y ∈ ps.zip us, scp.names.lookup y.1 = some .local ∨ (scp.names.lookup y.1 = some .cell ∧ ((cellsFrom (s.heap.objs.size + 1) scp.names []).lookup y.1).isSome = true) := by
    intro y hy
    rcases FS.par y.1 (List.of_mem_zip hy).1 with z | z
    · exact .inl z
    · exact .inr ⟨z, PySem.W.cellsFrom_some _ _ _ (.inl z)⟩
  refine codeAny_call_function hr.depth (kin _ _ lk) rfl FS.co FS.gen rfl (PySem.W.codeRec_of kin hcd) (hbi _ _ _ _ ?_)
  refine wpAny_newFunctionEnv_cells FS.kind hk fun env he s1 x => ?_
  subst he
  refine ⟨nol.keeps x.toInCall.keep, codeAny_func ?_⟩
  obtain ⟨t, ht, hq⟩ := hb cd A out s H vs Q (hr.deeper _) hg hsp
  have J := inv_start (CX := CX0) (E := E0) FS hr.hd e0 hl r x
  refine wpAny_mono (ht.run [] s1 (start N vs) H _ J hq) (fun fl s2 hs => ?_) fun e s2 hs => hs
  have fin : ∀ {σ2 : Slots} {H2 : Hp} {v : V} {u : Value}, Inv (cxOf CX0 prog wd K mg base N qu scp f cd A out s H E0) [] σ2 H2 s2 → RelV v u → Q v H2 → CE out prog wd H s Q u s2 := by
    intro σ2 H2 v u I rv q
    exact ⟨v, H2, I.os, I.bare, I.base, I.hok, rv, q⟩
  cases fl with
  | ret u =>
    obtain ⟨v, σ2, H2, I, rv, q⟩ := hs
    exact fin I rv q
  | next =>
    obtain ⟨σ2, H2, I, q⟩ := hs
    exact fin (v := V.non) (u := Value.none) I rfl q
  | brk =>
    obtain ⟨_, _, _, q⟩ := hs
    exact q.elim
  | cont =>
    obtain ⟨_, _, _, q⟩ := hs
    exact q.elim
end

/-! ### all defs of a program -/
theorem callF_find {P : Prg} {k : Nat} (j : Nat) (ds : List D) (S : Sto) (q : D × Sto) (h : callF P k j ds S = some q) : ∃ g, P.fns[j]? = some g := by
  cases k with
  | zero => cases h
  | succ k =>
    obtain ⟨g, hg, _⟩ := Option.bind_eq_some_iff.mp (show (P.fns[j]?).bind (fun g => runF P (callF P k) g ds S) = some q from h)
    exact ⟨g, hg⟩
theorem runF_np {P : Prg} {cf : Nat → List D → Sto → Option (D × Sto)} {g : Fn} {ds : List D} {S : Sto} {q : D × Sto} (h : runF P cf g ds S = some q) : ds.length = g.np := by
  unfold runF at h
  split at h
  · assumption
  · cases h
theorem callF_arity {P : Prg} {k : Nat} : Arity P (callF P k) := fun j g ds S q hg h => by
  cases k with
  | zero => cases h
  | succ k =>
    obtain ⟨g', hg', e⟩ := Option.bind_eq_some_iff.mp (show (P.fns[j]?).bind (fun g => runF P (callF P k) g ds S) = some q from h)
    rw [hg] at hg'; cases hg'
    exact runF_np e

/-- what the machine knows of one def -/
structure DefK (P : Prg) (K : PySem.W.Frag) (mg : Str → Option Value) (fa : Nat → Addr) (j : Nat) (g : Fn) : Prop where
  nm : mg g.name = some (.ref (fa j))
  ex : ∃ (nm' qu : Str) (pms : Arguments) (bdy : List Stmt) (scp : Scope) (fd : FuncData), FunD K nm' qu pms bdy scp [] [] (fa j) fd ∧ FnScope g.N (g.N.take g.np) scp ∧ mB P g.N scp g.body bdy = true ∧
    Binds K fd (g.N.take g.np) [] ∧
    ∀ (q : Nat) (w : Kwf), P.kws[q]? = some w → w.f = j → ∀ (s : Shared) (us ws zs : List Value), us.length = w.n → ws.length = w.ks.length → pick w.perm (us ++ ws) = some zs → BindsTo s fd ⟨us, w.ks.zip ws⟩ ((g.N.take g.np).zip zs)
/-- what the machine knows of the program -/
structure PrgK (P : Prg) (K : PySem.W.Frag) (mg : Str → Option Value) (fa : Nat → Addr) : Prop where
  bi : ∀ x ∈ biNames, mg x = none
  cst : ∀ (j : Nat) (p : Str × D), P.csts[j]? = some p → ∃ u v, mg p.1 = some u ∧ RelV v u ∧ ∀ G B, Dat K fa G B v p.2
  fns : ∀ (j : Nat) (g : Fn), P.fns[j]? = some g → DefK P K mg fa j g
  np : ∀ (j : Nat) (g : Fn), P.fns[j]? = some g → g.np ≤ g.N.length

theorem all_fns {P : Prg} {prog : Program} {wd : World} {K : PySem.W.Frag} {mg : Str → Option Value} {base : Heap} {fa : Nat → Addr} (PK : PrgK P K mg fa) : ∀ (k j : Nat) (g : Fn), P.fns[j]? = some g →
    ∀ (nm' qu : Str) (pms : Arguments) (bdy : List Stmt) (scp : Scope) (fd : FuncData), FunD K nm' qu pms bdy scp [] [] (fa j) fd → FnScope g.N (g.N.take g.np) scp → mB P g.N scp g.body bdy = true →
    FnG prog wd K mg base k (fa j) fd (g.N.take g.np) (spOf K fa g.np (callF P k j))
  | 0, j, g, hg, nm', qu, pms, bdy, scp, fd, F, FS, hm => ⟨fun vs H Q h => (by obtain ⟨_, G, B, S, ds, d, S', _, _, e, _⟩ := h; cases e), fun A out s H args us vs Q hr hgu e0 hb r h => (by obtain ⟨_, G, B, S, ds, d, S', _, _, e, _⟩ := h; cases e)⟩
  | k + 1, j, g, hg, nm', qu, pms, bdy, scp, fd, F, FS, hm => by
    have hnp := PK.np j g hg
    refine fnG_of F FS (fun vs H Q h => by rw [h.1, List.length_take]; omega) fun cd A out s H vs Q hr hgu h => ?_
    obtain ⟨hl, G, B, S, ds, d, S', RS, RD, e, q⟩ := h
    have e' : runF P (callF P k) g ds S = some (d, S') := by
      have e2 : (P.fns[j]?).bind (fun g => runF P (callF P k) g ds S) = some (d, S') := e
      rw [hg] at e2
      exact e2
    have hnd := runF_np e'
    unfold runF at e'
    rw [if_pos hnd] at e'
    cases ex : exB P (callF P k) g.body (ds.map (fun d => some (false, d)) ++ List.replicate (g.N.length - g.np) none) S with
    | none => rw [ex] at e'; cases e'
    | some r =>
      obtain ⟨o, S1⟩ := r
      rw [ex] at e'
      refine ⟨_, goodS (N := g.N) (fa := fa) (cf := callF P k) callF_arity callF_find g.body H G B (cxOf CX0 prog wd K mg base g.N qu scp (fa j) cd A out s H E0) scp bdy ⟨?_, fun _ => rfl, FS.kind, passes_of rfl⟩ hm, ?_⟩
      · exact {
          hN := rfl
          hsc := rfl
          nd := FS.nd
          calm := rfl
          gd := hgu
          un := by
            have := hr.un
            show (A.deeper _).units + 128 < cLine
            omega
          bi := PK.bi
          cst := PK.cst
          fnv := fun j' g' h' => by
            obtain ⟨nm, _, _, _, _, _, fd', F', _⟩ := PK.fns j' g' h'
            exact ⟨nm, F'.kp⟩
          run := by
            refine ⟨k, hr, fun j' g' h' => ?_⟩
            obtain ⟨nm, nm2, qu', pms', bdy', scp', fd', F', FS', hm', b1, b2⟩ := PK.fns j' g' h'
            exact ⟨fd', ⟨b1, b2⟩, all_fns PK k j' g' h' nm2 qu' pms' bdy' scp' fd' F' FS' hm'⟩ }
      · refine ⟨_, S, o, S1, ex, G, B, ⟨G, B, ⟨.refl, fun _ _ h => h, [], by simp⟩, start_ok RD hnd, RS⟩, ?_⟩
        exact endF_ok (np := g.np) (r := []) RS.len e' q
end Pv

set_option Elab.async false
set_option linter.all false
set_option maxRecDepth 100000
set_option maxHeartbeats 8000000
/-! SndU: from a program's facts to the law's row. -/
namespace Pv
open PySem PySem.Spec PyProof.Rows L2

/-! ### the call of the law's def, where no guard stands -/
theorem law_run {prog : Program} {wd : World} {K : PySem.W.Frag} {mg mb : Str → Option Value} {k : Nat} {f a : Addr} {fd : FuncData} {x : Str} {sp : SpG} {s : Shared} {vs : List Value} {ns : List Int}
    (kin : K.In s.heap) (hns : s.heap.Ns mainGlobals mg) (hb : s.heap.Ns builtinsNs mb) (hbb : ∀ y : Str, y ≠ "__name__" → mb y = bootBuiltins y) (lim : s.heap.NoLimit) (gen : s.gens = #[])
    (ha : s.heap.get? a = some { cls := .type "list", data := .seq vs.toArray }) (hi : IntsAre vs ns) (hl : ns.length ≤ sizeLine) (room : Room k callerA)
    (F : ∀ base : Heap, FnG prog wd K mg base k f fd [x] sp) (bnd : Binds K fd [x] [])
    (hsp : ∀ H : Hp, Only H → SqL K H a (ns.map V.int) → sp [.ref a] H (fun v _ => v = .bl true)) :
    codeAny (model prog wd) callerA (.call (.ref f) ⟨[.ref a], []⟩) (fun r s' => r = .ok (.ret (.bool true)) ∧ OldK s.heap s'.heap ∧ s'.os = s.os ∧ AllBare s'.gens) s := by
  have rv := vals_ints hi
  have hn := hi.length
  have main : ∀ H : Hp, Only H → SqL K H a (ns.map V.int) → HOk prog wd H s.heap → (∀ b, H b ≠ none → b = a) → (H a ≠ none → K.lookup a = none) →
      codeAny (model prog wd) callerA (.call (.ref f) ⟨[.ref a], []⟩) (fun r s' => r = .ok (.ret (.bool true)) ∧ OldK s.heap s'.heap ∧ s'.os = s.os ∧ AllBare s'.gens) s := by
    intro H only sq hok onlyA notK
    have keep : ∀ {b : Addr} {o : Obj}, s.heap.get? b = some o → H b = none → (hidT s.heap H).get? b = some o := fun e n => hidT_get e n
    have dictN : ∀ {b : Addr} {o : Obj} {es : Array DictEntry} {ep : Nat}, s.heap.get? b = some o → o.data = .dict es ep → H b = none := by
      intro b o es ep e d
      cases q : H b with
      | none => rfl
      | some u =>
        obtain rfl : b = a := onlyA b (by rw [q]; simp)
        rw [ha] at e
        cases e
        cases (show Data.seq vs.toArray _ = Data.dict es ep from d)
    have nsN : ∀ {b : Addr} {m : Str → Option Value}, s.heap.Ns b m → (hidT s.heap H).Ns b m := fun {b m} ⟨o, es, ep, e, d, r⟩ => ⟨o, es, ep, keep e (dictN e d), d, r⟩
    have kin2 : K.In (hidT s.heap H) := by
      intro b o e
      refine keep (kin b o e) ?_
      cases q : H b with
      | none => rfl
      | some u =>
        obtain rfl : b = a := onlyA b (by rw [q]; simp)
        rw [notK (by rw [q]; simp)] at e
        cases e
    have md : Mod K mg (hidT s.heap H) := ⟨kin2, nsN hns, ⟨mb, nsN hb, hbb⟩, let ⟨mc, h1, h2⟩ := lim; ⟨mc, nsN h1, h2⟩⟩
    have e0 : Env0 prog wd K mg (hidT s.heap H) callerA [] s H := ⟨rfl, md, fun b o e => of_hidT e, Nat.le_of_eq (hidT_size _ _), trivial, fun b hb => absurd (show b ∈ ([] : List Addr) from hb) (by simp), hok, .of_eq gen⟩
    refine codeAny_mono ((F (hidT s.heap H)).run callerA [] s H ⟨[.ref a], []⟩ [.ref a] [.ref a] _ room rfl e0 (bnd s [.ref a] kin rfl) (.cons rfl .nil) (hsp H only sq)) fun r s2 h => ?_
    cases r with
    | error e => exact False.elim h
    | ok fl =>
      cases fl with
      | next => exact False.elim h
      | brk => exact False.elim h
      | cont => exact False.elim h
      | ret u =>
        obtain ⟨v, H2, os, bare, un, hok2, r2, q⟩ := h
        obtain rfl : v = .bl true := q
        obtain rfl : u = Value.bool true := r2
        refine ⟨rfl, OldK.of_keep fun b o e => ?_, os, bare⟩
        cases q2 : H b with
        | none => exact un.keep b o e q2 (by intro z; exact absurd (show b ∈ ([] : List Addr) from z) (by simp)) (by simp)
        | some u =>
          rcases only b with z | ⟨ob, xs, z⟩
          · rw [q2] at z
            cases z
          · have z2 := un.frzs b ob _ z
            obtain ⟨e1, _⟩ := hok b _ z
            obtain ⟨e2, _⟩ := hok2 b _ z2
            rw [e] at e1
            cases e1
            exact e2
  cases hk : K.lookup a with
  | some o =>
    have e := kin a o hk
    rw [ha] at e
    cases e
    refine main (fun _ => none) (fun _ => .inl rfl) (.inr ⟨_, vs.toArray, _, hk, rfl, rfl, rfl, by rw [List.size_toArray, hn]; exact hl, by simpa using rv⟩) (fun b u z => by cases (show (none : Option HO) = some u from z)) (fun b z => absurd rfl z) fun z => absurd rfl z
  | none =>
    let ob : Obj := { cls := .type "list", data := .seq vs.toArray }
    refine main (fun b => if b = a then some (.frz ob (.lst (ns.map V.int))) else none) (fun b => ?_) (.inl (.inr ⟨ob, if_pos rfl⟩)) (fun b u z => ?_) (fun b z => ?_) fun _ => hk
    · by_cases hb : b = a
      · exact .inr ⟨_, _, if_pos hb⟩
      · exact .inl (if_neg hb)
    · by_cases hb : b = a
      · have z2 := (if_pos hb).symm.trans z
        cases z2
        subst hb
        exact ⟨ha, by rw [List.length_map]; exact hl, vs, _, rv, ha⟩
      · cases (if_neg hb).symm.trans z
    · by_cases hb : b = a
      · exact hb
      · exact absurd (if_neg hb) z

/-- the script as data -/
def scr (ns : List Int) : D := .fz (ns.map D.int)
theorem scr_ints {K : PySem.W.Frag} {fa : Nat → Addr} {G : Hp} {B : List Addr} : ∀ ns : List Int, Dats K fa G B (ns.map V.int) (ns.map D.int)
  | [] => rfl
  | n :: ns => ⟨_, _, rfl, rfl, scr_ints ns⟩
/-- the row, from the evaluator's answer at every script -/
theorem walk_law {l : PySem.W.OpenLaw} {n k j : Nat} {q : Program} {loose : List Str} {XP : (Str → Option Value) → Heap → Prop} {YP : World → Heap → Prop} {d : DefRec} {x : Str} {P : Prg} {g : Fn} (hg : P.fns[j]? = some g) (hN : g.N.take g.np = [x]) (hnp : g.np = 1)
    (hn : l.most = some n) (hn2 : n ≤ sizeLine) (hdf : d.params.defaults = []) (hr : Room k callerA)
    (F : ∀ (w : World) (mg : Str → Option Value) (f : Addr) (h : Heap), YP w h → h.Ns mainGlobals mg → mg d.name = some (.ref f) →
      ∃ (K : PySem.W.Frag) (fa : Nat → Addr), K.In h ∧ PrgK P K mg fa ∧ fa j = f)
    (hev : ∀ ns : List Int, ns.length ≤ n → (∀ z ∈ ns, Builtin.Int.intBits z ≤ 1048576) → ∃ S', callF P k j [scr ns] [] = some (.bl true, S')) :
    PySem.W.WalkO q loose XP YP l.row.toRowW d [] (fun f vs => PySem.call f vs) := by
  refine Att.attach_callB hn hdf fun w s₀ s₁ mg mb f o pm cd doc a vs ns Gr Y ho hd hcd hmg hobj hints hlen hbits hgen => ?_
  obtain ⟨K, fa, KX, PK, rfl⟩ := F w mg f _ Y Gr.T.g hmg
  obtain ⟨nm, nm2, qu, pms, bdy, scp, fd, FD, FS, hm, hb, _⟩ := PK.fns j g hg
  rw [hN] at hb
  obtain ⟨S', ev⟩ := hev ns hlen hbits
  refine law_run KX Gr.T.g Gr.T.b Gr.T.builtins Gr.T.nolimit hgen hobj hints (Nat.le_trans hlen hn2) hr (sp := spOf K fa g.np (callF P k j)) (fun base => hN ▸ all_fns PK k j g hg nm2 qu pms bdy scp fd FD FS hm) hb fun H only sq => ?_
  refine ⟨by rw [hnp]; rfl, H, [], [], [scr ns], .bl true, S', ⟨fun _ _ e => e, rfl, by simp, fun m ds e => by simp at e⟩, ⟨_, [], rfl, ⟨a, _, rfl, sq, scr_ints ns⟩, rfl⟩, ev, fun v H' G' B' _ _ dt => dt⟩

/-! ### the hook: facts, defs, tables -/
theorem SaysV.d {fa : List He.Fa} {fn : List He.DefD} {ts : List Tc} {K : PySem.W.Frag} (c : SaysV fa fn ts K) : He.SaysD fa fn K := by
  have e1 : ((He.obsD fa fn K).1 && ts.all fun t => He.tupB K t.1 t.2) = true := congrArg Prod.fst c
  have e2 : (He.obsD fa fn K).2 = fn.map He.DefD.val := congrArg Prod.snd c
  exact Prod.ext (Bool.and_eq_true_iff.mp e1).1 e2
theorem SaysV.tup {fa : List He.Fa} {fn : List He.DefD} {ts : List Tc} {K : PySem.W.Frag} (c : SaysV fa fn ts K) {t : Tc} (h : t ∈ ts) : He.tupB K t.1 t.2 = true := by
  have e1 : ((He.obsD fa fn K).1 && ts.all fun t => He.tupB K t.1 t.2) = true := congrArg Prod.fst c
  exact List.all_eq_true.mp (Bool.and_eq_true_iff.mp e1).2 t h

/-! ### from the hook to PrgK -/
/-- a constant: a whole number, a text, a tuple of such -/
def dvD : He.Dv → Option D
  | .non => some .non
  | .bl b => some (.bl b)
  | .int i => some (.int i)
  | .str s => some (.str s)
  | _ => none
def dvDs : List He.Dv → Option (List D)
  | [] => some []
  | v :: vs => (dvD v).bind fun d => (dvDs vs).map fun ds => d :: ds
theorem dvD_dat {K : PySem.W.Frag} {fa : Nat → Addr} {G : Hp} {B : List Addr} {v : He.Dv} {d : D} (h : dvD v = some d) : Dat K fa G B (v.v K) d := by
  cases v <;> cases h <;> rfl
theorem dvDs_dat {K : PySem.W.Frag} {fa : Nat → Addr} {G : Hp} {B : List Addr} : ∀ {vs : List He.Dv} {ds : List D}, dvDs vs = some ds → Dats K fa G B (vs.map (He.Dv.v K)) ds
  | [], _, h => by cases h; rfl
  | v :: vs, ds, h => by
    obtain ⟨d, h1, h2⟩ := Option.bind_eq_some_iff.mp (show ((dvD v).bind fun d => (dvDs vs).map fun ds => d :: ds) = some ds from h)
    obtain ⟨ds', h3, rfl⟩ := Option.map_eq_some_iff.mp h2
    exact ⟨_, _, rfl, dvD_dat h1, dvDs_dat h3⟩
def cstOk (fa : List He.Fa) (ts : List Tc) (p : Str × D) : Prop :=
  (∃ i, p.2 = .int i ∧ He.Fa.int p.1 i ∈ fa) ∨ (∃ z, p.2 = .str z ∧ He.Fa.str p.1 z ∈ fa) ∨ ∃ vs ds, p.2 = .tup ds ∧ dvDs vs = some ds ∧ He.Fa.glo p.1 ∈ fa ∧ (p.1, vs) ∈ ts
def scOk (N : List Str) (np : Nat) (sc : Scope) : Bool := decide (sc.kind = .function) && (!sc.isCoroutine && (!sc.isGenerator && (decide N.Nodup && ((N.take np).all (fun x => decide (sc.names.lookup x = some .local) || decide (sc.names.lookup x = some .cell)) && sc.names.all fun y => decide (y.2 ≠ .free)))))
theorem scOk_ok {N : List Str} {np : Nat} {sc : Scope} (h : scOk N np sc = true) (hn : np ≤ N.length) : FnScope N (N.take np) sc := by
  unfold scOk at h
  simp only [Bool.and_eq_true, Bool.not_eq_true', decide_eq_true_eq, List.all_eq_true, Bool.or_eq_true] at h
  obtain ⟨h1, h2, h3, h4, h5, h6⟩ := h
  exact ⟨h1, h2, h3, h4, by rw [List.length_take, Nat.min_eq_left hn], h5, h6⟩
/-- a def of the text and its form as data agree -/
structure DefC (P : Prg) (j : Nat) (g : Fn) (st : Stmt) : Prop where
  np : g.np ≤ g.N.length
  sc : scOk g.N g.np (defScope st) = true
  chk : mB P g.N (defScope st) g.body (defBody st) = true
  bnd : ∀ (kV doc pm : Value) (an : Option Addr) (cd ct : Value) (us : List Value), us.length = (g.N.take g.np).length → bindArgs (PySem.W.fnOf g.own g.own (defArgs st) (defBody st) (defScope st) .none kV doc pm an cd ct) ⟨us, []⟩ = pure ((g.N.take g.np).zip us)
  kwb : ∀ w ∈ P.kws, w.f = j → ∀ (kV doc pm : Value) (an : Option Addr) (cd ct : Value) (us ws zs : List Value), us.length = w.n → ws.length = w.ks.length → pick w.perm (us ++ ws) = some zs →
    bindArgs (PySem.W.fnOf g.own g.own (defArgs st) (defBody st) (defScope st) .none kV doc pm an cd ct) ⟨us, w.ks.zip ws⟩ = pure ((g.N.take g.np).zip zs)
def faOf (P : Prg) (K : PySem.W.Frag) (j : Nat) : Addr := match P.fns[j]? with
  | some g => He.ga K g.name
  | none => 0
theorem prgK_of {P : Prg} {tx : Nat → Stmt} {fa : List He.Fa} {fn : List He.DefD} {ts : List Tc} {K : PySem.W.Frag} {h : Heap} {mg : Str → Option Value} (X : K.In h) (Gn : h.Ns mainGlobals mg) (c : SaysV fa fn ts K)
    (hbi : ∀ x ∈ biNames, He.Fa.free x ∈ fa) (hc : ∀ p ∈ P.csts, cstOk fa ts p) (hf : ∀ (j : Nat) (g : Fn), P.fns[j]? = some g → He.Fa.glo g.name ∈ fa ∧ fn[j]? = some (ddOf g (tx j)) ∧ DefC P j g (tx j)) : PrgK P K mg (faOf P K) := by
  have fact : ∀ f ∈ fa, f.ok K = true := fun f hm => by
    have c1 := (He.ba (show ((fa.all fun f => f.ok K) && fn.all fun d => d.ok K) = true from congrArg (fun z : He.AlD => z.1) c.d)).1
    exact List.all_eq_true.mp c1 f hm
  refine ⟨fun x hx => He.free_ok X Gn (fact _ (hbi x hx)), fun j p hj => ?_, fun j g hj => ?_, fun j g hj => (hf j g hj).2.2.np⟩
  · rcases hc p (List.mem_of_getElem? hj) with ⟨i, e, hm⟩ | ⟨z, e, hm⟩ | ⟨vs, ds, e, e2, hm, ht⟩
    · obtain ⟨t, ht⟩ := He.int_ok X Gn (fact _ hm)
      exact ⟨_, .int i, ht, ⟨t, rfl⟩, fun G B => by rw [e]; rfl⟩
    · obtain ⟨t, ht⟩ := He.str_ok X Gn (fact _ hm)
      exact ⟨_, .str z, ht, ⟨t, rfl⟩, fun G B => by rw [e]; rfl⟩
    · exact ⟨_, .ref (He.ga K p.1), He.glo_ok X Gn (fact _ hm), rfl, fun G B => by
        rw [e]
        exact ⟨_, _, rfl, He.tupB_ok (c.tup ht) G, dvDs_dat e2⟩⟩
  · obtain ⟨h1, h2, h3⟩ := hf j g hj
    have e : faOf P K j = He.ga K g.name := by
      unfold faOf
      rw [hj]
    obtain ⟨fd, F⟩ := c.d.def_ j h2
    have F' : FunD K g.own g.own (defArgs (tx j)) (defBody (tx j)) (defScope (tx j)) [] [] (He.ga K g.name) fd := F
    refine ⟨by rw [e]; exact He.glo_ok X Gn (fact _ h1), g.own, g.own, _, _, _, fd, by rw [e]; exact F', scOk_ok h3.sc h3.np, h3.chk, F'.bindsN h3.bnd, fun q w hw hq s us ws zs l1 l2 hp => ?_⟩
    obtain ⟨oc, od, dV, kV, doc, pm, an, cd, ct, osl, rfl, lk, hcd, hD, hK⟩ := F'.ex
    rcases hD with ⟨_, rfl⟩ | ⟨hne, _⟩
    · exact .of_eq (h3.kwb w (List.mem_of_getElem? hw) hq kV doc pm an cd ct us ws zs l1 l2 hp)
    · exact absurd rfl hne
end Pv

set_option Elab.async false
set_option linter.all false
set_option maxRecDepth 100000
set_option maxHeartbeats 0
namespace Pv.K13
open PySem PySem.Spec PyProof.Rows L2
theorem c0 : DefC prg 0 f0 (top 6) where
  np := by decide
  sc := by decide +kernel
  chk := by decide +kernel
  bnd := fun _ _ _ _ _ _ us hl => match us, hl with | [_], _ => rfl
  kwb := fun w hw hj => by
    simp only [prg, List.mem_cons, List.not_mem_nil, or_false] at hw
    rcases hw with rfl | rfl | rfl
    · cases hj
    · cases hj
    · cases hj
theorem c1 : DefC prg 1 f1 (top 7) where
  np := by decide
  sc := by decide +kernel
  chk := by decide +kernel
  bnd := fun _ _ _ _ _ _ us hl => match us, hl with | [_, _, _], _ => rfl
  kwb := fun w hw hj => by
    simp only [prg, List.mem_cons, List.not_mem_nil, or_false] at hw
    rcases hw with rfl | rfl | rfl
    · cases hj
    · cases hj
    · cases hj
theorem c2 : DefC prg 2 f2 (top 11) where
  np := by decide
  sc := by decide +kernel
  chk := by decide +kernel
  bnd := fun _ _ _ _ _ _ us hl => match us, hl with | [_, _], _ => rfl
  kwb := fun w hw hj => by
    simp only [prg, List.mem_cons, List.not_mem_nil, or_false] at hw
    rcases hw with rfl | rfl | rfl
    · cases hj
    · cases hj
    · cases hj
theorem c3 : DefC prg 3 f3 (top 12) where
  np := by decide
  sc := by decide +kernel
  chk := by decide +kernel
  bnd := fun _ _ _ _ _ _ us hl => match us, hl with | [_, _], _ => rfl
  kwb := fun w hw hj => by
    simp only [prg, List.mem_cons, List.not_mem_nil, or_false] at hw
    rcases hw with rfl | rfl | rfl
    · cases hj
    · cases hj
    · cases hj
theorem c4 : DefC prg 4 f4 (top 13) where
  np := by decide
  sc := by decide +kernel
  chk := by decide +kernel
  bnd := fun _ _ _ _ _ _ us hl => match us, hl with | [_], _ => rfl
  kwb := fun w hw hj => by
    simp only [prg, List.mem_cons, List.not_mem_nil, or_false] at hw
    rcases hw with rfl | rfl | rfl
    · cases hj
    · cases hj
    · cases hj
theorem c5 : DefC prg 5 f5 (top 14) where
  np := by decide
  sc := by decide +kernel
  chk := by decide +kernel
  bnd := fun _ _ _ _ _ _ us hl => match us, hl with | [_], _ => rfl
  kwb := fun w hw hj => by
    simp only [prg, List.mem_cons, List.not_mem_nil, or_false] at hw
    rcases hw with rfl | rfl | rfl
    · cases hj
    · cases hj
    · cases hj
theorem c6 : DefC prg 6 f6 (top 15) where
  np := by decide
  sc := by decide +kernel
  chk := by decide +kernel
  bnd := fun _ _ _ _ _ _ us hl => match us, hl with | [_, _], _ => rfl
  kwb := fun w hw hj => by
    simp only [prg, List.mem_cons, List.not_mem_nil, or_false] at hw
    rcases hw with rfl | rfl | rfl
    · cases hj
    · cases hj
    · cases hj
theorem c7 : DefC prg 7 f7 (top 16) where
  np := by decide
  sc := by decide +kernel
  chk := by decide +kernel
  bnd := fun _ _ _ _ _ _ us hl => match us, hl with | [_, _], _ => rfl
  kwb := fun w hw hj => by
    simp only [prg, List.mem_cons, List.not_mem_nil, or_false] at hw
    rcases hw with rfl | rfl | rfl
    · cases hj
    · cases hj
    · cases hj
theorem c8 : DefC prg 8 f8 (top 17) where
  np := by decide
  sc := by decide +kernel
  chk := by decide +kernel
  bnd := fun _ _ _ _ _ _ us hl => match us, hl with | [_, _], _ => rfl
  kwb := fun w hw hj => by
    simp only [prg, List.mem_cons, List.not_mem_nil, or_false] at hw
    rcases hw with rfl | rfl | rfl
    · cases hj
    · cases hj
    · cases hj
theorem c9 : DefC prg 9 f9 (top 18) where
  np := by decide
  sc := by decide +kernel
  chk := by decide +kernel
  bnd := fun _ _ _ _ _ _ us hl => match us, hl with | [_, _], _ => rfl
  kwb := fun w hw hj => by
    simp only [prg, List.mem_cons, List.not_mem_nil, or_false] at hw
    rcases hw with rfl | rfl | rfl
    · cases hj
    · cases hj
    · cases hj
theorem c10 : DefC prg 10 f10 (top 21) where
  np := by decide
  sc := by decide +kernel
  chk := by decide +kernel
  bnd := fun _ _ _ _ _ _ us hl => match us, hl with | [_], _ => rfl
  kwb := fun w hw hj => by
    simp only [prg, List.mem_cons, List.not_mem_nil, or_false] at hw
    rcases hw with rfl | rfl | rfl
    · cases hj
    · cases hj
    · cases hj
theorem c11 : DefC prg 11 f11 (top 22) where
  np := by decide
  sc := by decide +kernel
  chk := by decide +kernel
  bnd := fun _ _ _ _ _ _ us hl => match us, hl with | [_], _ => rfl
  kwb := fun w hw hj => by
    simp only [prg, List.mem_cons, List.not_mem_nil, or_false] at hw
    rcases hw with rfl | rfl | rfl
    · cases hj
    · cases hj
    · cases hj
theorem c12 : DefC prg 12 f12 (top 37) where
  np := by decide
  sc := by decide +kernel
  chk := by decide +kernel
  bnd := fun _ _ _ _ _ _ us hl => match us, hl with | [_], _ => rfl
  kwb := fun w hw hj => by
    simp only [prg, List.mem_cons, List.not_mem_nil, or_false] at hw
    rcases hw with rfl | rfl | rfl
    · cases hj
    · cases hj
    · cases hj
theorem c13 : DefC prg 13 f13 (top 38) where
  np := by decide
  sc := by decide +kernel
  chk := by decide +kernel
  bnd := fun _ _ _ _ _ _ us hl => match us, hl with | [_], _ => rfl
  kwb := fun w hw hj => by
    simp only [prg, List.mem_cons, List.not_mem_nil, or_false] at hw
    rcases hw with rfl | rfl | rfl
    · cases hj
    · cases hj
    · cases hj
theorem c14 : DefC prg 14 f14 (top 39) where
  np := by decide
  sc := by decide +kernel
  chk := by decide +kernel
  bnd := fun _ _ _ _ _ _ us hl => match us, hl with | [_], _ => rfl
  kwb := fun w hw hj => by
    simp only [prg, List.mem_cons, List.not_mem_nil, or_false] at hw
    rcases hw with rfl | rfl | rfl
    · cases hj
    · cases hj
    · cases hj
theorem c15 : DefC prg 15 f15 (top 40) where
  np := by decide
  sc := by decide +kernel
  chk := by decide +kernel
  bnd := fun _ _ _ _ _ _ us hl => match us, hl with | [_], _ => rfl
  kwb := fun w hw hj => by
    simp only [prg, List.mem_cons, List.not_mem_nil, or_false] at hw
    rcases hw with rfl | rfl | rfl
    · cases hj
    · cases hj
    · cases hj
theorem c16 : DefC prg 16 f16 (top 41) where
  np := by decide
  sc := by decide +kernel
  chk := by decide +kernel
  bnd := fun _ _ _ _ _ _ us hl => match us, hl with | [_], _ => rfl
  kwb := fun w hw hj => by
    simp only [prg, List.mem_cons, List.not_mem_nil, or_false] at hw
    rcases hw with rfl | rfl | rfl
    · cases hj
    · cases hj
    · cases hj
theorem c17 : DefC prg 17 f17 (top 42) where
  np := by decide
  sc := by decide +kernel
  chk := by decide +kernel
  bnd := fun _ _ _ _ _ _ us hl => match us, hl with | [_], _ => rfl
  kwb := fun w hw hj => by
    simp only [prg, List.mem_cons, List.not_mem_nil, or_false] at hw
    rcases hw with rfl | rfl | rfl
    · cases hj
    · cases hj
    · cases hj
theorem c18 : DefC prg 18 f18 (top 43) where
  np := by decide
  sc := by decide +kernel
  chk := by decide +kernel
  bnd := fun _ _ _ _ _ _ us hl => match us, hl with | [_, _], _ => rfl
  kwb := fun w hw hj => by
    simp only [prg, List.mem_cons, List.not_mem_nil, or_false] at hw
    rcases hw with rfl | rfl | rfl
    · cases hj
    · cases hj
    · cases hj
theorem c19 : DefC prg 19 f19 (top 44) where
  np := by decide
  sc := by decide +kernel
  chk := by decide +kernel
  bnd := fun _ _ _ _ _ _ us hl => match us, hl with | [_, _], _ => rfl
  kwb := fun w hw hj => by
    simp only [prg, List.mem_cons, List.not_mem_nil, or_false] at hw
    rcases hw with rfl | rfl | rfl
    · cases hj
    · cases hj
    · cases hj
theorem c20 : DefC prg 20 f20 (top 45) where
  np := by decide
  sc := by decide +kernel
  chk := by decide +kernel
  bnd := fun _ _ _ _ _ _ us hl => match us, hl with | [_, _], _ => rfl
  kwb := fun w hw hj => by
    simp only [prg, List.mem_cons, List.not_mem_nil, or_false] at hw
    rcases hw with rfl | rfl | rfl
    · cases hj
    · cases hj
    · cases hj
theorem c21 : DefC prg 21 f21 (top 46) where
  np := by decide
  sc := by decide +kernel
  chk := by decide +kernel
  bnd := fun _ _ _ _ _ _ us hl => match us, hl with | [_, _], _ => rfl
  kwb := fun w hw hj => by
    simp only [prg, List.mem_cons, List.not_mem_nil, or_false] at hw
    rcases hw with rfl | rfl | rfl
    · cases hj
    · intro _ _ _ _ _ _ us ws zs l1 l2 h
      match us, ws, l1, l2, h with
      | [], [_, _], _, _, h => cases h; rfl
    · cases hj
theorem c22 : DefC prg 22 f22 (top 47) where
  np := by decide
  sc := by decide +kernel
  chk := by decide +kernel
  bnd := fun _ _ _ _ _ _ us hl => match us, hl with | [_, _, _], _ => rfl
  kwb := fun w hw hj => by
    simp only [prg, List.mem_cons, List.not_mem_nil, or_false] at hw
    rcases hw with rfl | rfl | rfl
    · cases hj
    · cases hj
    · cases hj
theorem c23 : DefC prg 23 f23 (top 48) where
  np := by decide
  sc := by decide +kernel
  chk := by decide +kernel
  bnd := fun _ _ _ _ _ _ us hl => match us, hl with | [_, _], _ => rfl
  kwb := fun w hw hj => by
    simp only [prg, List.mem_cons, List.not_mem_nil, or_false] at hw
    rcases hw with rfl | rfl | rfl
    · cases hj
    · cases hj
    · cases hj
theorem c24 : DefC prg 24 f24 (top 49) where
  np := by decide
  sc := by decide +kernel
  chk := by decide +kernel
  bnd := fun _ _ _ _ _ _ us hl => match us, hl with | [_], _ => rfl
  kwb := fun w hw hj => by
    simp only [prg, List.mem_cons, List.not_mem_nil, or_false] at hw
    rcases hw with rfl | rfl | rfl
    · cases hj
    · cases hj
    · cases hj
theorem c25 : DefC prg 25 f25 (top 50) where
  np := by decide
  sc := by decide +kernel
  chk := by decide +kernel
  bnd := fun _ _ _ _ _ _ us hl => match us, hl with | [_], _ => rfl
  kwb := fun w hw hj => by
    simp only [prg, List.mem_cons, List.not_mem_nil, or_false] at hw
    rcases hw with rfl | rfl | rfl
    · cases hj
    · cases hj
    · cases hj
theorem c26 : DefC prg 26 f26 (top 51) where
  np := by decide
  sc := by decide +kernel
  chk := by decide +kernel
  bnd := fun _ _ _ _ _ _ us hl => match us, hl with | [_, _], _ => rfl
  kwb := fun w hw hj => by
    simp only [prg, List.mem_cons, List.not_mem_nil, or_false] at hw
    rcases hw with rfl | rfl | rfl
    · cases hj
    · cases hj
    · cases hj
theorem c27 : DefC prg 27 f27 (top 52) where
  np := by decide
  sc := by decide +kernel
  chk := by decide +kernel
  bnd := fun _ _ _ _ _ _ us hl => match us, hl with | [_], _ => rfl
  kwb := fun w hw hj => by
    simp only [prg, List.mem_cons, List.not_mem_nil, or_false] at hw
    rcases hw with rfl | rfl | rfl
    · cases hj
    · cases hj
    · intro _ _ _ _ _ _ us ws zs l1 l2 h
      match us, ws, l1, l2, h with
      | [], [_], _, _, h => cases h; rfl
theorem c28 : DefC prg 28 f28 (top 53) where
  np := by decide
  sc := by decide +kernel
  chk := by decide +kernel
  bnd := fun _ _ _ _ _ _ us hl => match us, hl with | [_, _], _ => rfl
  kwb := fun w hw hj => by
    simp only [prg, List.mem_cons, List.not_mem_nil, or_false] at hw
    rcases hw with rfl | rfl | rfl
    · cases hj
    · cases hj
    · cases hj
theorem c29 : DefC prg 29 f29 (top 54) where
  np := by decide
  sc := by decide +kernel
  chk := by decide +kernel
  bnd := fun _ _ _ _ _ _ us hl => match us, hl with | [_, _], _ => rfl
  kwb := fun w hw hj => by
    simp only [prg, List.mem_cons, List.not_mem_nil, or_false] at hw
    rcases hw with rfl | rfl | rfl
    · cases hj
    · cases hj
    · cases hj
theorem c30 : DefC prg 30 f30 (top 55) where
  np := by decide
  sc := by decide +kernel
  chk := by decide +kernel
  bnd := fun _ _ _ _ _ _ us hl => match us, hl with | [_, _], _ => rfl
  kwb := fun w hw hj => by
    simp only [prg, List.mem_cons, List.not_mem_nil, or_false] at hw
    rcases hw with rfl | rfl | rfl
    · intro _ _ _ _ _ _ us ws zs l1 l2 h
      match us, ws, l1, l2, h with
      | [], [_, _], _, _, h => cases h; rfl
    · cases hj
    · cases hj
theorem c31 : DefC prg 31 f31 (top 57) where
  np := by decide
  sc := by decide +kernel
  chk := by decide +kernel
  bnd := fun _ _ _ _ _ _ us hl => match us, hl with | [_, _], _ => rfl
  kwb := fun w hw hj => by
    simp only [prg, List.mem_cons, List.not_mem_nil, or_false] at hw
    rcases hw with rfl | rfl | rfl
    · cases hj
    · cases hj
    · cases hj
theorem c32 : DefC prg 32 f32 (top 58) where
  np := by decide
  sc := by decide +kernel
  chk := by decide +kernel
  bnd := fun _ _ _ _ _ _ us hl => match us, hl with | [_, _], _ => rfl
  kwb := fun w hw hj => by
    simp only [prg, List.mem_cons, List.not_mem_nil, or_false] at hw
    rcases hw with rfl | rfl | rfl
    · cases hj
    · cases hj
    · cases hj
theorem c33 : DefC prg 33 f33 (top 59) where
  np := by decide
  sc := by decide +kernel
  chk := by decide +kernel
  bnd := fun _ _ _ _ _ _ us hl => match us, hl with | [_, _], _ => rfl
  kwb := fun w hw hj => by
    simp only [prg, List.mem_cons, List.not_mem_nil, or_false] at hw
    rcases hw with rfl | rfl | rfl
    · cases hj
    · cases hj
    · cases hj
theorem c34 : DefC prg 34 f34 (top 60) where
  np := by decide
  sc := by decide +kernel
  chk := by decide +kernel
  bnd := fun _ _ _ _ _ _ us hl => match us, hl with | [_, _], _ => rfl
  kwb := fun w hw hj => by
    simp only [prg, List.mem_cons, List.not_mem_nil, or_false] at hw
    rcases hw with rfl | rfl | rfl
    · cases hj
    · cases hj
    · cases hj
theorem c35 : DefC prg 35 f35 (top 61) where
  np := by decide
  sc := by decide +kernel
  chk := by decide +kernel
  bnd := fun _ _ _ _ _ _ us hl => match us, hl with | [_, _], _ => rfl
  kwb := fun w hw hj => by
    simp only [prg, List.mem_cons, List.not_mem_nil, or_false] at hw
    rcases hw with rfl | rfl | rfl
    · cases hj
    · cases hj
    · cases hj
theorem c36 : DefC prg 36 f36 (top 62) where
  np := by decide
  sc := by decide +kernel
  chk := by decide +kernel
  bnd := fun _ _ _ _ _ _ us hl => match us, hl with | [_, _], _ => rfl
  kwb := fun w hw hj => by
    simp only [prg, List.mem_cons, List.not_mem_nil, or_false] at hw
    rcases hw with rfl | rfl | rfl
    · cases hj
    · cases hj
    · cases hj
theorem c37 : DefC prg 37 f37 (top 63) where
  np := by decide
  sc := by decide +kernel
  chk := by decide +kernel
  bnd := fun _ _ _ _ _ _ us hl => match us, hl with | [_, _], _ => rfl
  kwb := fun w hw hj => by
    simp only [prg, List.mem_cons, List.not_mem_nil, or_false] at hw
    rcases hw with rfl | rfl | rfl
    · cases hj
    · cases hj
    · cases hj
theorem c38 : DefC prg 38 f38 (top 64) where
  np := by decide
  sc := by decide +kernel
  chk := by decide +kernel
  bnd := fun _ _ _ _ _ _ us hl => match us, hl with | [_, _], _ => rfl
  kwb := fun w hw hj => by
    simp only [prg, List.mem_cons, List.not_mem_nil, or_false] at hw
    rcases hw with rfl | rfl | rfl
    · cases hj
    · cases hj
    · cases hj
theorem c39 : DefC prg 39 f39 (top 65) where
  np := by decide
  sc := by decide +kernel
  chk := by decide +kernel
  bnd := fun _ _ _ _ _ _ us hl => match us, hl with | [_, _], _ => rfl
  kwb := fun w hw hj => by
    simp only [prg, List.mem_cons, List.not_mem_nil, or_false] at hw
    rcases hw with rfl | rfl | rfl
    · cases hj
    · cases hj
    · cases hj
theorem c40 : DefC prg 40 f40 (top 66) where
  np := by decide
  sc := by decide +kernel
  chk := by decide +kernel
  bnd := fun _ _ _ _ _ _ us hl => match us, hl with | [_, _], _ => rfl
  kwb := fun w hw hj => by
    simp only [prg, List.mem_cons, List.not_mem_nil, or_false] at hw
    rcases hw with rfl | rfl | rfl
    · cases hj
    · cases hj
    · cases hj
theorem c41 : DefC prg 41 f41 (top 67) where
  np := by decide
  sc := by decide +kernel
  chk := by decide +kernel
  bnd := fun _ _ _ _ _ _ us hl => match us, hl with | [_, _], _ => rfl
  kwb := fun w hw hj => by
    simp only [prg, List.mem_cons, List.not_mem_nil, or_false] at hw
    rcases hw with rfl | rfl | rfl
    · cases hj
    · cases hj
    · cases hj
theorem c42 : DefC prg 42 f42 (top 68) where
  np := by decide
  sc := by decide +kernel
  chk := by decide +kernel
  bnd := fun _ _ _ _ _ _ us hl => match us, hl with | [_, _], _ => rfl
  kwb := fun w hw hj => by
    simp only [prg, List.mem_cons, List.not_mem_nil, or_false] at hw
    rcases hw with rfl | rfl | rfl
    · cases hj
    · cases hj
    · cases hj
theorem c43 : DefC prg 43 f43 (top 69) where
  np := by decide
  sc := by decide +kernel
  chk := by decide +kernel
  bnd := fun _ _ _ _ _ _ us hl => match us, hl with | [_, _], _ => rfl
  kwb := fun w hw hj => by
    simp only [prg, List.mem_cons, List.not_mem_nil, or_false] at hw
    rcases hw with rfl | rfl | rfl
    · cases hj
    · cases hj
    · cases hj
theorem c44 : DefC prg 44 f44 (top 70) where
  np := by decide
  sc := by decide +kernel
  chk := by decide +kernel
  bnd := fun _ _ _ _ _ _ us hl => match us, hl with | [_, _], _ => rfl
  kwb := fun w hw hj => by
    simp only [prg, List.mem_cons, List.not_mem_nil, or_false] at hw
    rcases hw with rfl | rfl | rfl
    · cases hj
    · cases hj
    · cases hj
theorem c45 : DefC prg 45 f45 (top 71) where
  np := by decide
  sc := by decide +kernel
  chk := by decide +kernel
  bnd := fun _ _ _ _ _ _ us hl => match us, hl with | [_, _], _ => rfl
  kwb := fun w hw hj => by
    simp only [prg, List.mem_cons, List.not_mem_nil, or_false] at hw
    rcases hw with rfl | rfl | rfl
    · cases hj
    · cases hj
    · cases hj
theorem c46 : DefC prg 46 f46 (top 72) where
  np := by decide
  sc := by decide +kernel
  chk := by decide +kernel
  bnd := fun _ _ _ _ _ _ us hl => match us, hl with | [_, _, _], _ => rfl
  kwb := fun w hw hj => by
    simp only [prg, List.mem_cons, List.not_mem_nil, or_false] at hw
    rcases hw with rfl | rfl | rfl
    · cases hj
    · cases hj
    · cases hj
theorem c47 : DefC prg 47 f47 (top 73) where
  np := by decide
  sc := by decide +kernel
  chk := by decide +kernel
  bnd := fun _ _ _ _ _ _ us hl => match us, hl with | [_], _ => rfl
  kwb := fun w hw hj => by
    simp only [prg, List.mem_cons, List.not_mem_nil, or_false] at hw
    rcases hw with rfl | rfl | rfl
    · cases hj
    · cases hj
    · cases hj
theorem c48 : DefC prg 48 f48 (top 74) where
  np := by decide
  sc := by decide +kernel
  chk := by decide +kernel
  bnd := fun _ _ _ _ _ _ us hl => match us, hl with | [_, _], _ => rfl
  kwb := fun w hw hj => by
    simp only [prg, List.mem_cons, List.not_mem_nil, or_false] at hw
    rcases hw with rfl | rfl | rfl
    · cases hj
    · cases hj
    · cases hj
theorem c49 : DefC prg 49 f49 (top 75) where
  np := by decide
  sc := by decide +kernel
  chk := by decide +kernel
  bnd := fun _ _ _ _ _ _ us hl => match us, hl with | [_, _], _ => rfl
  kwb := fun w hw hj => by
    simp only [prg, List.mem_cons, List.not_mem_nil, or_false] at hw
    rcases hw with rfl | rfl | rfl
    · cases hj
    · cases hj
    · cases hj
theorem c50 : DefC prg 50 f50 (top 76) where
  np := by decide
  sc := by decide +kernel
  chk := by decide +kernel
  bnd := fun _ _ _ _ _ _ us hl => match us, hl with | [_, _], _ => rfl
  kwb := fun w hw hj => by
    simp only [prg, List.mem_cons, List.not_mem_nil, or_false] at hw
    rcases hw with rfl | rfl | rfl
    · cases hj
    · cases hj
    · cases hj
theorem c51 : DefC prg 51 f51 (top 77) where
  np := by decide
  sc := by decide +kernel
  chk := by decide +kernel
  bnd := fun _ _ _ _ _ _ us hl => match us, hl with | [_, _], _ => rfl
  kwb := fun w hw hj => by
    simp only [prg, List.mem_cons, List.not_mem_nil, or_false] at hw
    rcases hw with rfl | rfl | rfl
    · cases hj
    · cases hj
    · cases hj
theorem c52 : DefC prg 52 f52 (top 78) where
  np := by decide
  sc := by decide +kernel
  chk := by decide +kernel
  bnd := fun _ _ _ _ _ _ us hl => match us, hl with | [_], _ => rfl
  kwb := fun w hw hj => by
    simp only [prg, List.mem_cons, List.not_mem_nil, or_false] at hw
    rcases hw with rfl | rfl | rfl
    · cases hj
    · cases hj
    · cases hj
theorem c53 : DefC prg 53 f53 (top 79) where
  np := by decide
  sc := by decide +kernel
  chk := by decide +kernel
  bnd := fun _ _ _ _ _ _ us hl => match us, hl with | [_], _ => rfl
  kwb := fun w hw hj => by
    simp only [prg, List.mem_cons, List.not_mem_nil, or_false] at hw
    rcases hw with rfl | rfl | rfl
    · cases hj
    · cases hj
    · cases hj
theorem allc : ∀ (j : Nat) (g : Fn), prg.fns[j]? = some g → He.Fa.glo g.name ∈ fcs ∧ dds[j]? = some (ddOf g (tx j)) ∧ DefC prg j g (tx j) := by
  intro j g h
  match j, h with
  | 0, h => cases h; exact ⟨by unfold fcs fcs1 fcs2 fcs3; simp [f0], rfl, c0⟩
  | 1, h => cases h; exact ⟨by unfold fcs fcs1 fcs2 fcs3; simp [f1], rfl, c1⟩
  | 2, h => cases h; exact ⟨by unfold fcs fcs1 fcs2 fcs3; simp [f2], rfl, c2⟩
  | 3, h => cases h; exact ⟨by unfold fcs fcs1 fcs2 fcs3; simp [f3], rfl, c3⟩
  | 4, h => cases h; exact ⟨by unfold fcs fcs1 fcs2 fcs3; simp [f4], rfl, c4⟩
  | 5, h => cases h; exact ⟨by unfold fcs fcs1 fcs2 fcs3; simp [f5], rfl, c5⟩
  | 6, h => cases h; exact ⟨by unfold fcs fcs1 fcs2 fcs3; simp [f6], rfl, c6⟩
  | 7, h => cases h; exact ⟨by unfold fcs fcs1 fcs2 fcs3; simp [f7], rfl, c7⟩
  | 8, h => cases h; exact ⟨by unfold fcs fcs1 fcs2 fcs3; simp [f8], rfl, c8⟩
  | 9, h => cases h; exact ⟨by unfold fcs fcs1 fcs2 fcs3; simp [f9], rfl, c9⟩
  | 10, h => cases h; exact ⟨by unfold fcs fcs1 fcs2 fcs3; simp [f10], rfl, c10⟩
  | 11, h => cases h; exact ⟨by unfold fcs fcs1 fcs2 fcs3; simp [f11], rfl, c11⟩
  | 12, h => cases h; exact ⟨by unfold fcs fcs1 fcs2 fcs3; simp [f12], rfl, c12⟩
  | 13, h => cases h; exact ⟨by unfold fcs fcs1 fcs2 fcs3; simp [f13], rfl, c13⟩
  | 14, h => cases h; exact ⟨by unfold fcs fcs1 fcs2 fcs3; simp [f14], rfl, c14⟩
  | 15, h => cases h; exact ⟨by unfold fcs fcs1 fcs2 fcs3; simp [f15], rfl, c15⟩
  | 16, h => cases h; exact ⟨by unfold fcs fcs1 fcs2 fcs3; simp [f16], rfl, c16⟩
  | 17, h => cases h; exact ⟨by unfold fcs fcs1 fcs2 fcs3; simp [f17], rfl, c17⟩
  | 18, h => cases h; exact ⟨by unfold fcs fcs1 fcs2 fcs3; simp [f18], rfl, c18⟩
  | 19, h => cases h; exact ⟨by unfold fcs fcs1 fcs2 fcs3; simp [f19], rfl, c19⟩
  | 20, h => cases h; exact ⟨by unfold fcs fcs1 fcs2 fcs3; simp [f20], rfl, c20⟩
  | 21, h => cases h; exact ⟨by unfold fcs fcs1 fcs2 fcs3; simp [f21], rfl, c21⟩
  | 22, h => cases h; exact ⟨by unfold fcs fcs1 fcs2 fcs3; simp [f22], rfl, c22⟩
  | 23, h => cases h; exact ⟨by unfold fcs fcs1 fcs2 fcs3; simp [f23], rfl, c23⟩
  | 24, h => cases h; exact ⟨by unfold fcs fcs1 fcs2 fcs3; simp [f24], rfl, c24⟩
  | 25, h => cases h; exact ⟨by unfold fcs fcs1 fcs2 fcs3; simp [f25], rfl, c25⟩
  | 26, h => cases h; exact ⟨by unfold fcs fcs1 fcs2 fcs3; simp [f26], rfl, c26⟩
  | 27, h => cases h; exact ⟨by unfold fcs fcs1 fcs2 fcs3; simp [f27], rfl, c27⟩
  | 28, h => cases h; exact ⟨by unfold fcs fcs1 fcs2 fcs3; simp [f28], rfl, c28⟩
  | 29, h => cases h; exact ⟨by unfold fcs fcs1 fcs2 fcs3; simp [f29], rfl, c29⟩
  | 30, h => cases h; exact ⟨by unfold fcs fcs1 fcs2 fcs3; simp [f30], rfl, c30⟩
  | 31, h => cases h; exact ⟨by unfold fcs fcs1 fcs2 fcs3; simp [f31], rfl, c31⟩
  | 32, h => cases h; exact ⟨by unfold fcs fcs1 fcs2 fcs3; simp [f32], rfl, c32⟩
  | 33, h => cases h; exact ⟨by unfold fcs fcs1 fcs2 fcs3; simp [f33], rfl, c33⟩
  | 34, h => cases h; exact ⟨by unfold fcs fcs1 fcs2 fcs3; simp [f34], rfl, c34⟩
  | 35, h => cases h; exact ⟨by unfold fcs fcs1 fcs2 fcs3; simp [f35], rfl, c35⟩
  | 36, h => cases h; exact ⟨by unfold fcs fcs1 fcs2 fcs3; simp [f36], rfl, c36⟩
  | 37, h => cases h; exact ⟨by unfold fcs fcs1 fcs2 fcs3; simp [f37], rfl, c37⟩
  | 38, h => cases h; exact ⟨by unfold fcs fcs1 fcs2 fcs3; simp [f38], rfl, c38⟩
  | 39, h => cases h; exact ⟨by unfold fcs fcs1 fcs2 fcs3; simp [f39], rfl, c39⟩
  | 40, h => cases h; exact ⟨by unfold fcs fcs1 fcs2 fcs3; simp [f40], rfl, c40⟩
  | 41, h => cases h; exact ⟨by unfold fcs fcs1 fcs2 fcs3; simp [f41], rfl, c41⟩
  | 42, h => cases h; exact ⟨by unfold fcs fcs1 fcs2 fcs3; simp [f42], rfl, c42⟩
  | 43, h => cases h; exact ⟨by unfold fcs fcs1 fcs2 fcs3; simp [f43], rfl, c43⟩
  | 44, h => cases h; exact ⟨by unfold fcs fcs1 fcs2 fcs3; simp [f44], rfl, c44⟩
  | 45, h => cases h; exact ⟨by unfold fcs fcs1 fcs2 fcs3; simp [f45], rfl, c45⟩
  | 46, h => cases h; exact ⟨by unfold fcs fcs1 fcs2 fcs3; simp [f46], rfl, c46⟩
  | 47, h => cases h; exact ⟨by unfold fcs fcs1 fcs2 fcs3; simp [f47], rfl, c47⟩
  | 48, h => cases h; exact ⟨by unfold fcs fcs1 fcs2 fcs3; simp [f48], rfl, c48⟩
  | 49, h => cases h; exact ⟨by unfold fcs fcs1 fcs2 fcs3; simp [f49], rfl, c49⟩
  | 50, h => cases h; exact ⟨by unfold fcs fcs1 fcs2 fcs3; simp [f50], rfl, c50⟩
  | 51, h => cases h; exact ⟨by unfold fcs fcs1 fcs2 fcs3; simp [f51], rfl, c51⟩
  | 52, h => cases h; exact ⟨by unfold fcs fcs1 fcs2 fcs3; simp [f52], rfl, c52⟩
  | 53, h => cases h; exact ⟨by unfold fcs fcs1 fcs2 fcs3; simp [f53], rfl, c53⟩
  | n + 54, h => simp [prg] at h
theorem cstc : ∀ p ∈ prg.csts, cstOk fcs tcs p := by
  intro p h
  simp only [prg, List.mem_cons, List.not_mem_nil, or_false] at h
  rcases h with rfl | rfl | rfl | rfl | rfl | rfl | rfl | rfl | rfl | rfl | rfl | rfl | rfl | rfl | rfl | rfl
  · exact .inl ⟨_, rfl, by unfold fcs fcs1 fcs2 fcs3; simp⟩
  · exact .inr (.inr ⟨[.int 0, .int 1], _, rfl, rfl, by unfold fcs fcs1 fcs2 fcs3; simp, by unfold tcs; simp⟩)
  · exact .inl ⟨_, rfl, by unfold fcs fcs1 fcs2 fcs3; simp⟩
  · exact .inr (.inl ⟨_, rfl, by unfold fcs fcs1 fcs2 fcs3; simp⟩)
  · exact .inr (.inl ⟨_, rfl, by unfold fcs fcs1 fcs2 fcs3; simp⟩)
  · exact .inr (.inl ⟨_, rfl, by unfold fcs fcs1 fcs2 fcs3; simp⟩)
  · exact .inr (.inl ⟨_, rfl, by unfold fcs fcs1 fcs2 fcs3; simp⟩)
  · exact .inr (.inl ⟨_, rfl, by unfold fcs fcs1 fcs2 fcs3; simp⟩)
  · exact .inl ⟨_, rfl, by unfold fcs fcs1 fcs2 fcs3; simp⟩
  · exact .inl ⟨_, rfl, by unfold fcs fcs1 fcs2 fcs3; simp⟩
  · exact .inl ⟨_, rfl, by unfold fcs fcs1 fcs2 fcs3; simp⟩
  · exact .inl ⟨_, rfl, by unfold fcs fcs1 fcs2 fcs3; simp⟩
  · exact .inl ⟨_, rfl, by unfold fcs fcs1 fcs2 fcs3; simp⟩
  · exact .inl ⟨_, rfl, by unfold fcs fcs1 fcs2 fcs3; simp⟩
  · exact .inl ⟨_, rfl, by unfold fcs fcs1 fcs2 fcs3; simp⟩
  · exact .inl ⟨_, rfl, by unfold fcs fcs1 fcs2 fcs3; simp⟩
theorem bic : ∀ x ∈ biNames, He.Fa.free x ∈ fcs := by
  intro x h
  simp only [biNames, List.mem_cons, List.not_mem_nil, or_false] at h
  rcases h with rfl | rfl | rfl | rfl | rfl | rfl | rfl | rfl | rfl | rfl | rfl | rfl | rfl | rfl | rfl | rfl | rfl | rfl | rfl | rfl | rfl <;> (unfold fcs fcs1 fcs2 fcs3; simp)
def depth : Nat := 40
theorem room : Room depth callerA := ⟨rfl, by decide, by decide⟩
/-- the row, from the evaluator's answer -/
theorem holds_of (hev : ∀ ns : List Int, ns.length ≤ 63 → (∀ z ∈ ns, Builtin.Int.intBits z ≤ 1048576) → ∃ S', callF prg depth 53 [scr ns] [] = some (.bl true, S')) : PySem.Challenge.rw_crossingstold_k13_whole_points_in_region.Holds := by
  open PySem PySem.W PySem.Calls PyProof.Rows in
  w_on; o_law
  refine HandSHeadRun.head_any (r := PySem.W.OpenLaw.row PySem.Challenge.rw_crossingstold_k13_whole_points_in_region) (q := PySem.W.view (PySem.W.OpenLaw.row PySem.Challenge.rw_crossingstold_k13_whole_points_in_region).prog [79]) (H := hk) (ob := ob) (M := 3800) (loose := loose) (d := HandSHeadRun.topDef (PySem.W.OpenLaw.row PySem.Challenge.rw_crossingstold_k13_whole_points_in_region).prog 79) (kwd := []) ob_eq
    (by kernel_rfl) (fun s => by kernel_rfl) run (by kernel_rfl) (by kernel_rfl) (by kernel_rfl) (by rfl) (by first | assumption | decide +kernel) (by decide +kernel) ⟨rfl, rfl, rfl, rfl, rfl, by decide +kernel⟩ ?hw ?hc
  case hw => w_witness2
  case hc =>
    refine walk_law (l := PySem.Challenge.rw_crossingstold_k13_whole_points_in_region) (n := 63) (k := depth) (j := 53) (x := "script") (P := prg) (g := f53) rfl rfl rfl rfl (by decide) (by kernel_rfl) room (fun w mg f h Y G hmg0 => ?_) hev
    · obtain ⟨K, KX, c⟩ := Y
      have hmg : mg ("law" : PySem.Str) = some (.ref f) := by
        have e : (HandSHeadRun.topDef (PySem.W.OpenLaw.row PySem.Challenge.rw_crossingstold_k13_whole_points_in_region).prog 79).name = ("law" : PySem.Str) := by kernel_rfl
        rw [← e]
        exact hmg0
      have PK := prgK_of (P := prg) (tx := tx) KX G c bic cstc allc
      have e := hmg.symm.trans (PK.fns 53 f53 rfl).nm
      cases e
      exact ⟨K, faOf prg K, KX, PK, rfl⟩
-- law: 53, at 79; loose: ['is_whole', 'is_tuple', 'common', 'fraction', 'whole', 'is_fraction', 'plus', 'less', 'times', 'is_below', 'is_point', 'check_point', 'is_half', 'is_disc', 'is_part', 'is_joint', 'is_region', 'check_region', 'half_worth', 'square_of', 'is_in_region', 'is_in', 'turn', 'is_ahead', 'is_patch', 'check_patch', 'half_of', 'region_of', 'moved_half', 'moved_by', 'moved', '_law_pot', '_law_take', '_law_of', '_law_cells', '_law_common', '_law_fraction', '_law_drawn_fraction', '_law_drawn_point', '_law_drawn_region', '_law_plus', '_law_times', '_law_minus', '_law_is_upto', '_law_square_of', '_law_is_in', '_law_sided', '_law_drawn_patch', '_law_is_in_patch', '_law_moved', '_law_half_of', '_law_patch_points', '_law_right']
end Pv.K13

set_option Elab.async false
set_option linter.all false
set_option maxRecDepth 100000
set_option maxHeartbeats 4000000
namespace Pv.K13
open PySem PySem.Spec PyProof.Rows L2
theorem s_is_whole {k : Nat} {S : Sto} {n : Int} : callF prg (k + 1) 0 [.int n] S = some (.bl true, S) := by
  rw [cf_s (g := f0) rfl]
  simp [f0, runF, L2.ixN, List.replicate]
theorem s_is_tuple {k : Nat} {S : Sto} {xs : List D} {a b : Int} : callF prg (k + 1) 1 [.tup xs, .int a, .int b] S = some (.bl (decide (a ≤ xs.length) && decide ((xs.length : Int) ≤ b)), S) := by
  rw [cf_s (g := f1) rfl]
  by_cases h : a ≤ xs.length <;> simp [f1, runF, L2.ixN, List.replicate, isNon, h]
theorem gcd_loop {k : Nat} {S : Sto} {a b : Int} (ha : 0 ≤ a) (hb : 0 ≤ b) (hs : Bd 1000000 b) :
    whl (cW prg (callF prg k) (.cmp .NotEq (.var 1) (.cst (.int 0)))) (bW prg (callF prg k) [.par [0, 1] [.var 1, .bin .Mod (.var 0) (.var 1)]]) most
      [some (false, .int a), some (false, .int b)] S = some (.nx [some (false, .int (Int.gcd a b)), some (false, .int 0)], S) := by
  obtain ⟨r1, S1, e, ⟨x, y, rfl, rfl, hx, hy, hg⟩, hc⟩ := whl_ind (c := cW prg (callF prg k) (.cmp .NotEq (.var 1) (.cst (.int 0)))) (b := bW prg (callF prg k) [.par [0, 1] [.var 1, .bin .Mod (.var 0) (.var 1)]])
    (fun r S' => ∃ x y : Int, r = [some (false, .int x), some (false, .int y)] ∧ S' = S ∧ 0 ≤ x ∧ 0 ≤ y ∧ Int.gcd x y = Int.gcd a b) (fun r _ => match r with | [_, some (_, .int y)] => y.natAbs | _ => 0) (fun r S' h => by
      obtain ⟨x, y, rfl, rfl, hx, hy, hg⟩ := h
      by_cases h0 : y = 0
      · left
        simp [runF, L2.ixN, List.replicate, h0]
      · right
        refine ⟨by simp [runF, L2.ixN, List.replicate, h0], [some (false, .int y), some (false, .int (x.fmod y))], _, by simp [runF, L2.ixN, List.replicate, b_mod h0], ⟨y, x.fmod y, rfl, rfl, hy, ?_, ?_⟩, ?_⟩
        · exact Int.fmod_nonneg_of_pos x (by omega)
        · rw [gcd_fmod]; exact hg
        · show (x.fmod y).natAbs < y.natAbs
          have h1 := Int.fmod_nonneg_of_pos x (b := y) (by omega)
          have h2 := Int.fmod_lt_of_pos x (b := y) (by omega)
          omega) most [some (false, .int a), some (false, .int b)] S ⟨a, b, rfl, rfl, ha, hb, rfl⟩ (lt_most hs (by decide))
  have hy0 : y = 0 := by
    by_cases h0 : y = 0
    · exact h0
    · simp [runF, L2.ixN, List.replicate, h0] at hc
  subst hy0
  rw [e]
  have : (Int.gcd x 0 : Int) = x := by
    rw [Int.gcd_zero_right]
    omega
  rw [← hg, this]
theorem s_common {k : Nat} {S : Sto} {a b : Int} (hs : Bd 1000000 b) : callF prg (k + 1) 2 [.int a, .int b] S = some (.int (Int.gcd a b), S) := by
  rw [cf_s (g := f2) rfl]
  have h := gcd_loop (k := k) (S := S) (a := a.natAbs) (b := b.natAbs) (by omega) (by omega) (hs.le (by simp))
  simp [f2, runF, L2.ixN, List.replicate, h]
  rfl

theorem s_fraction {k : Nat} {S : Sto} {a b : Int} (hb : 0 < b) (hs : Bd 8000 b) : callF prg (k + 2) 3 [.int a, .int b] S = some (fr a b, S) := by
  rw [cf_s (g := f3) rfl]
  have g0 := gcd_pos (a := a) hb
  have g1 := gcd_le (a := a) hb
  have d := szDiv_ok (j := (Int.gcd a b : Int)) (by omega) (hs.le (by omega))
  have e : ∀ x : Int, x.fdiv (Int.gcd a b : Int) = x / (Int.gcd a b : Int) := fun x => Int.fdiv_eq_ediv_of_nonneg x (by omega)
  simp [f3, runF, L2.ixN, List.replicate, s_common (k := k) (a := a) (hs.mono (by decide : 8000 ≤ 1000000)), hb, b_div d, e, fr]
theorem s_whole {k : Nat} {S : Sto} {n : Int} : callF prg (k + 1) 4 [.int n] S = some (.tup [.int n, .int 1], S) := by
  rw [cf_s (g := f4) rfl]
  simp [f4, runF, L2.ixN, List.replicate]
theorem s_plus {k : Nat} {S : Sto} {a b c d : Int} (hb : 0 < b) (hd : 0 < d) (sa : Bd 3000 a) (sb : Bd 3000 b) (sc : Bd 3000 c) (sd : Bd 3000 d) :
    callF prg (k + 3) 6 [.tup [.int a, .int b], .tup [.int c, .int d]] S = some (fr (a * d + c * b) (b * d), S) := by
  rw [cf_s (g := f6) rfl]
  simp [f6, runF, L2.ixN, List.replicate, b_mul (szMul_ok sa sd), b_mul (szMul_ok sc sb), b_mul (szMul_ok sb sd), s_fraction (k := k) (a := a * d + c * b) (Int.mul_pos hb hd) ((sb.mul sd).mono (by decide)), fr]
theorem s_less {k : Nat} {S : Sto} {a b c d : Int} (hb : 0 < b) (hd : 0 < d) (sa : Bd 3000 a) (sb : Bd 3000 b) (sc : Bd 3000 c) (sd : Bd 3000 d) :
    callF prg (k + 3) 7 [.tup [.int a, .int b], .tup [.int c, .int d]] S = some (fr (a * d - c * b) (b * d), S) := by
  rw [cf_s (g := f7) rfl]
  simp [f7, runF, L2.ixN, List.replicate, b_mul (szMul_ok sa sd), b_mul (szMul_ok sc sb), b_mul (szMul_ok sb sd), s_fraction (k := k) (a := a * d - c * b) (Int.mul_pos hb hd) ((sb.mul sd).mono (by decide)), fr]
theorem s_times {k : Nat} {S : Sto} {a b c d : Int} (hb : 0 < b) (hd : 0 < d) (sa : Bd 3000 a) (sb : Bd 3000 b) (sc : Bd 3000 c) (sd : Bd 3000 d) :
    callF prg (k + 3) 8 [.tup [.int a, .int b], .tup [.int c, .int d]] S = some (fr (a * c) (b * d), S) := by
  rw [cf_s (g := f8) rfl]
  simp [f8, runF, L2.ixN, List.replicate, b_mul (szMul_ok sa sc), b_mul (szMul_ok sb sd), s_fraction (k := k) (a := a * c) (Int.mul_pos hb hd) ((sb.mul sd).mono (by decide)), fr]

theorem s_is_fraction {k : Nat} {S : Sto} {a b : Int} (sb : Bd 1000000 b) : callF prg (k + 2) 5 [.tup [.int a, .int b]] S = some (.bl (decide (1 ≤ b) && decide (Int.gcd a b = 1)), S) := by
  rw [cf_s (g := f5) rfl]
  have e1 : ((Int.gcd a b : Int) = 1) = (Int.gcd a b = 1) := by
    apply propext
    omega
  have t := s_is_tuple (k := k) (S := S) (xs := [.int a, .int b]) (a := 2) (b := 2)
  simp at t
  by_cases h : 1 ≤ b <;> simp [f5, runF, L2.ixN, List.replicate, h, wipeR, compL, boolsOf, t, s_is_whole (k := k), s_common (k := k) sb, e1]
theorem s_is_fraction4 {k : Nat} {S : Sto} {a b c d : D} : callF prg (k + 2) 5 [.tup [a, b, c, d]] S = some (.bl false, S) := by
  rw [cf_s (g := f5) rfl]
  have t := s_is_tuple (k := k) (S := S) (xs := [a, b, c, d]) (a := 2) (b := 2)
  simp at t
  simp [f5, runF, L2.ixN, List.replicate, t]
end Pv.K13

set_option Elab.async false
set_option linter.all false
set_option maxRecDepth 100000
set_option maxHeartbeats 4000000
namespace Pv.K13
open PySem PySem.Spec PyProof.Rows L2
theorem l_common {k : Nat} {S : Sto} {a b : Int} (hs : Bd 1000000 b) : callF prg (k + 1) 35 [.int a, .int b] S = some (.int (Int.gcd a b), S) := by
  rw [cf_s (g := f35) rfl]
  have h := gcd_loop (k := k) (S := S) (a := a.natAbs) (b := b.natAbs) (by omega) (by omega) (hs.le (by simp))
  simp [f35, runF, L2.ixN, List.replicate, h]
  rfl
theorem l_fraction {k : Nat} {S : Sto} {a b : Int} (hb : 0 < b) (hs : Bd 8000 b) : callF prg (k + 2) 36 [.int a, .int b] S = some (fr a b, S) := by
  rw [cf_s (g := f36) rfl]
  have g0 := gcd_pos (a := a) hb
  have g1 := gcd_le (a := a) hb
  have d := szDiv_ok (j := (Int.gcd a b : Int)) (by omega) (hs.le (by omega))
  have e : ∀ x : Int, x.fdiv (Int.gcd a b : Int) = x / (Int.gcd a b : Int) := fun x => Int.fdiv_eq_ediv_of_nonneg x (by omega)
  simp [f36, runF, L2.ixN, List.replicate, l_common (k := k) (a := a) (hs.mono (by decide : 8000 ≤ 1000000)), hb, b_div d, e, fr]
theorem l_fraction_n {k : Nat} {S : Sto} {a b : Int} (hb : b < 0) (hs : Bd 8000 b) : callF prg (k + 2) 36 [.int a, .int b] S = some (fr (-a) (-b), S) := by
  rw [cf_s (g := f36) rfl]
  have g0 := gcd_pos (a := a) (b := -b) (by omega)
  have g1 := gcd_le (a := a) (b := -b) (by omega)
  rw [Int.gcd_neg] at g0 g1
  have d := szDiv_ok (j := (Int.gcd a b : Int)) (by omega) (hs.le (by omega))
  have e : ∀ x : Int, x.fdiv (Int.gcd a b : Int) = x / (Int.gcd a b : Int) := fun x => Int.fdiv_eq_ediv_of_nonneg x (by omega)
  have nb : ¬ 0 < b := by omega
  simp [f36, runF, L2.ixN, List.replicate, l_common (k := k) (a := a) (hs.mono (by decide : 8000 ≤ 1000000)), nb, b_div d, e, fr, Int.neg_gcd, Int.gcd_neg]
theorem q_plus {k m n : Nat} {S : Sto} {p q : Rat} (hp : Sz m p) (hq : Sz n q) (hm : m ≤ 3000 := by omega) (hn : n ≤ 3000 := by omega) : callF prg (k + 3) 6 [qD p, qD q] S = some (qD (p + q), S) := by
  have h := s_plus (k := k) (S := S) (den_pos' p) (den_pos' q) (hp.n.mono hm) (hp.d.mono hm) (hq.n.mono hn) (hq.d.mono hn)
  rw [fr_add] at h
  exact h
theorem q_less {k m n : Nat} {S : Sto} {p q : Rat} (hp : Sz m p) (hq : Sz n q) (hm : m ≤ 3000 := by omega) (hn : n ≤ 3000 := by omega) : callF prg (k + 3) 7 [qD p, qD q] S = some (qD (p - q), S) := by
  have h := s_less (k := k) (S := S) (den_pos' p) (den_pos' q) (hp.n.mono hm) (hp.d.mono hm) (hq.n.mono hn) (hq.d.mono hn)
  rw [fr_sub] at h
  exact h
theorem q_times {k m n : Nat} {S : Sto} {p q : Rat} (hp : Sz m p) (hq : Sz n q) (hm : m ≤ 3000 := by omega) (hn : n ≤ 3000 := by omega) : callF prg (k + 3) 8 [qD p, qD q] S = some (qD (p * q), S) := by
  have h := s_times (k := k) (S := S) (den_pos' p) (den_pos' q) (hp.n.mono hm) (hp.d.mono hm) (hq.n.mono hn) (hq.d.mono hn)
  rw [fr_times] at h
  exact h
theorem q_whole {k : Nat} {S : Sto} {n : Int} : callF prg (k + 1) 4 [.int n] S = some (qD (n : Rat), S) := s_whole
theorem q_is_below {k m n : Nat} {S : Sto} {p q : Rat} (hp : Sz m p) (hq : Sz n q) (hm : m ≤ 3000 := by omega) (hn : n ≤ 3000 := by omega) : callF prg (k + 1) 9 [qD p, qD q] S = some (.bl (decide (p < q)), S) := by
  rw [cf_s (g := f9) rfl]
  have m1 := b_mul (szMul_ok (hp.n.mono hm) (hq.d.mono hn))
  have m2 := b_mul (szMul_ok (hq.n.mono hn) (hp.d.mono hm))
  have e := lt_num p q
  by_cases h : p < q
  · have h' := e.mpr h
    simp [f9, runF, L2.ixN, List.replicate, qD, m1, m2, h, h']
  · have h' := Int.not_lt.mp fun z => h (e.mp z)
    simp [f9, runF, L2.ixN, List.replicate, qD, m1, m2, h, h']
theorem q_is_fraction {k m : Nat} {S : Sto} {p : Rat} (hp : Sz m p) (hm : m ≤ 3000 := by omega) : callF prg (k + 2) 5 [qD p] S = some (.bl true, S) := by
  have h := s_is_fraction (k := k) (S := S) (a := p.num) (b := (p.den : Int)) (hp.d.mono (by omega))
  have h1 : (1 : Int) ≤ p.den := by have := den_pos' p; omega
  have h2 : Int.gcd p.num (p.den : Int) = 1 := p.reduced
  rw [decide_eq_true h1, decide_eq_true h2] at h
  exact h
theorem q_is_point {k m : Nat} {S : Sto} {x y : Rat} (hx : Sz m x) (hy : Sz m y) (hm : m ≤ 3000 := by omega) : callF prg (k + 3) 10 [.tup [qD x, qD y]] S = some (.bl true, S) := by
  rw [cf_s (g := f10) rfl]
  have t := s_is_tuple (k := k + 1) (S := S) (xs := [qD x, qD y]) (a := 2) (b := 2)
  simp at t
  simp [f10, runF, L2.ixN, List.replicate, t, q_is_fraction (k := k) hx hm, q_is_fraction (k := k) hy hm]
theorem q_check_point {k m : Nat} {S : Sto} {x y : Rat} (hx : Sz m x) (hy : Sz m y) (hm : m ≤ 3000 := by omega) : callF prg (k + 4) 11 [.tup [qD x, qD y]] S = some (.non, S) := by
  rw [cf_s (g := f11) rfl]
  simp [f11, runF, L2.ixN, List.replicate, q_is_point (k := k) hx hy hm]
/-! the law's own -/
theorem ql_plus {k m n : Nat} {S : Sto} {p q : Rat} (hp : Sz m p) (hq : Sz n q) (hm : m ≤ 3000 := by omega) (hn : n ≤ 3000 := by omega) : callF prg (k + 3) 40 [qD p, qD q] S = some (qD (p + q), S) := by
  rw [cf_s (g := f40) rfl]
  have m1 := b_mul (szMul_ok (hp.n.mono hm) (hq.d.mono hn))
  have m2 := b_mul (szMul_ok (hq.n.mono hn) (hp.d.mono hm))
  have m3 := b_mul (szMul_ok (hp.d.mono hm) (hq.d.mono hn))
  have e := l_fraction (k := k) (S := S) (a := p.num * q.den + q.num * p.den) (dd_pos p q) (((hp.d.mono hm).mul (hq.d.mono hn)).mono (by decide))
  rw [fr_add] at e
  simp only [qD] at e ⊢
  simp [f40, runF, L2.ixN, List.replicate, m1, m2, m3, e]
theorem ql_times {k m n : Nat} {S : Sto} {p q : Rat} (hp : Sz m p) (hq : Sz n q) (hm : m ≤ 3000 := by omega) (hn : n ≤ 3000 := by omega) : callF prg (k + 3) 41 [qD p, qD q] S = some (qD (p * q), S) := by
  rw [cf_s (g := f41) rfl]
  have m1 := b_mul (szMul_ok (hp.n.mono hm) (hq.n.mono hn))
  have m3 := b_mul (szMul_ok (hp.d.mono hm) (hq.d.mono hn))
  have e := l_fraction (k := k) (S := S) (a := p.num * q.num) (dd_pos p q) (((hp.d.mono hm).mul (hq.d.mono hn)).mono (by decide))
  rw [fr_times] at e
  simp only [qD] at e ⊢
  simp [f41, runF, L2.ixN, List.replicate, m1, m3, e]
theorem ql_minus {k m n : Nat} {S : Sto} {p q : Rat} (hp : Sz m p) (hq : Sz n q) (hm : m ≤ 3000 := by omega) (hn : n ≤ 3000 := by omega) : callF prg (k + 4) 42 [qD p, qD q] S = some (qD (p - q), S) := by
  rw [cf_s (g := f42) rfl]
  have e := ql_plus (k := k) (S := S) hp hq.neg
  rw [← Rat.sub_eq_add_neg, qD_neg] at e
  have eq : qD q = .tup [.int q.num, .int (q.den : Int)] := rfl
  rw [eq]
  simp [f42, runF, L2.ixN, List.replicate, e]
theorem ql_is_upto {k m n : Nat} {S : Sto} {p q : Rat} (hp : Sz m p) (hq : Sz n q) (hm : m ≤ 3000 := by omega) (hn : n ≤ 3000 := by omega) : callF prg (k + 1) 43 [qD p, qD q] S = some (.bl (decide (p ≤ q)), S) := by
  rw [cf_s (g := f43) rfl]
  have m1 := b_mul (szMul_ok (hp.n.mono hm) (hq.d.mono hn))
  have m2 := b_mul (szMul_ok (hq.n.mono hn) (hp.d.mono hm))
  have e := le_num p q
  by_cases h : p ≤ q
  · have h' := e.mpr h
    simp [f43, runF, L2.ixN, List.replicate, qD, m1, m2, h, h']
  · have h' := Int.not_le.mp fun z => h (e.mp z)
    simp [f43, runF, L2.ixN, List.replicate, qD, m1, m2, h, h']
end Pv.K13

set_option Elab.async false
set_option linter.all false
set_option maxRecDepth 100000
set_option maxHeartbeats 4000000
namespace Pv.K13
open PySem PySem.Spec PyProof.Rows L2
/-! what is a region -/
theorem q_half_t {k : Nat} {S : Sto} {a b c : Int} (h : a ≠ 0 ∨ b ≠ 0) : callF prg (k + 2) 12 [.tup [.str "half", .int a, .int b, .int c]] S = some (.bl true, S) := by
  rw [cf_s (g := f12) rfl]
  have t := s_is_tuple (k := k) (S := S) (xs := [.str "half", .int a, .int b, .int c]) (a := 4) (b := 4)
  simp at t
  by_cases ha : a = 0
  · have hb : b ≠ 0 := h.resolve_left (fun z => z ha)
    subst ha
    simp [f12, runF, L2.ixN, List.replicate, t, hb, wipeR, boolsOf, s_is_whole (k := k), slc_1]
  · simp [f12, runF, L2.ixN, List.replicate, t, ha, wipeR, boolsOf, s_is_whole (k := k), slc_1]
theorem q_half_d {k : Nat} {S : Sto} {p s : D} : callF prg (k + 2) 12 [.tup [.str "disc", p, s]] S = some (.bl false, S) := by
  rw [cf_s (g := f12) rfl]
  have t := s_is_tuple (k := k) (S := S) (xs := [.str "disc", p, s]) (a := 4) (b := 4)
  simp at t
  simp [f12, runF, L2.ixN, List.replicate, t]
theorem word_ne (w : Nat) : wordS w ≠ "half" ∧ wordS w ≠ "disc" := by
  match w with
  | 0 => exact ⟨by decide +kernel, by decide +kernel⟩
  | 1 => exact ⟨by decide +kernel, by decide +kernel⟩
  | n + 2 =>
    show (("not" : Str) ≠ "half") ∧ ("not" : Str) ≠ "disc"
    exact ⟨by decide +kernel, by decide +kernel⟩
theorem q_half_j {k w : Nat} {S : Sto} {ds : List D} (h1 : ds.length ≤ 8) : callF prg (k + 2) 12 [.tup (.str (wordS w) :: ds)] S = some (.bl false, S) := by
  rw [cf_s (g := f12) rfl]
  have t := s_is_tuple (k := k) (S := S) (xs := .str (wordS w) :: ds) (a := 4) (b := 4)
  have n := (word_ne w).1
  by_cases e : ds.length = 3
  · have e1 : decide ((4 : Int) ≤ ((D.str (wordS w) :: ds).length : Int)) = true := decide_eq_true (by simp; omega)
    have e2 : decide (((D.str (wordS w) :: ds).length : Int) ≤ 4) = true := decide_eq_true (by simp; omega)
    rw [e1, e2] at t
    simp at t
    simp [f12, runF, L2.ixN, List.replicate, t, n]
  · have e1 : (decide ((4 : Int) ≤ ((D.str (wordS w) :: ds).length : Int)) && decide (((D.str (wordS w) :: ds).length : Int) ≤ 4)) = false := by
      rw [Bool.and_eq_false_iff]
      by_cases e3 : ds.length < 3
      · exact .inl (decide_eq_false (by simp; omega))
      · exact .inr (decide_eq_false (by simp; omega))
    rw [e1] at t
    simp [f12, runF, L2.ixN, List.replicate, t]
theorem q_disc_t {k m : Nat} {S : Sto} {x y s : Rat} (hx : Sz m x) (hy : Sz m y) (hs : Sz m s) (h0 : 0 ≤ s) (hm : m ≤ 3000 := by omega) : callF prg (k + 4) 13 [.tup [.str "disc", .tup [qD x, qD y], qD s]] S = some (.bl true, S) := by
  rw [cf_s (g := f13) rfl]
  have t := s_is_tuple (k := k + 2) (S := S) (xs := [.str "disc", .tup [qD x, qD y], qD s]) (a := 3) (b := 3)
  simp at t
  have z : ¬ s < 0 := Rat.not_lt.mpr h0
  have e := q_is_below (k := k + 2) (S := S) (p := s) (q := 0) hs (Sz.int (n := 0) bd0 (by decide) : Sz 1 0)
  rw [qD_0] at e
  simp [f13, runF, L2.ixN, List.replicate, t, q_is_point (k := k) hx hy, q_is_fraction (k := k + 1) hs, e, z, atI_m3]
theorem q_disc_j {k w : Nat} {S : Sto} {ds : List D} (h1 : ds.length ≤ 8) : callF prg (k + 2) 13 [.tup (.str (wordS w) :: ds)] S = some (.bl false, S) := by
  rw [cf_s (g := f13) rfl]
  have t := s_is_tuple (k := k) (S := S) (xs := .str (wordS w) :: ds) (a := 3) (b := 3)
  have n := (word_ne w).2
  by_cases e : ds.length = 2
  · have e1 : decide ((3 : Int) ≤ ((D.str (wordS w) :: ds).length : Int)) = true := decide_eq_true (by simp; omega)
    have e2 : decide (((D.str (wordS w) :: ds).length : Int) ≤ 3) = true := decide_eq_true (by simp; omega)
    rw [e1, e2] at t
    simp at t
    simp [f13, runF, L2.ixN, List.replicate, t, n]
  · have e1 : (decide ((3 : Int) ≤ ((D.str (wordS w) :: ds).length : Int)) && decide (((D.str (wordS w) :: ds).length : Int) ≤ 3)) = false := by
      rw [Bool.and_eq_false_iff]
      by_cases e3 : ds.length < 2
      · exact .inl (decide_eq_false (by simp; omega))
      · exact .inr (decide_eq_false (by simp; omega))
    rw [e1] at t
    simp [f13, runF, L2.ixN, List.replicate, t]
def Reg.leaf : Reg → Bool
  | .jn _ _ => false
  | _ => true
theorem q_is_part {k m : Nat} {S : Sto} {r : Reg} (h : r.ok m) (hm : m ≤ 3000 := by omega) : callF prg (k + 5) 14 [r.d] S = some (.bl (Reg.leaf r), S) := by
  rw [cf_s (g := f14) rfl]
  cases r with
  | half a b c =>
    simp only [Reg.d]
    simp [f14, runF, L2.ixN, List.replicate, q_half_t (k := k + 2) h.2.2.2, Reg.leaf]
  | disc x y s =>
    obtain ⟨h1, h2, h3, h4⟩ := h
    simp only [Reg.d]
    simp [f14, runF, L2.ixN, List.replicate, q_half_d (k := k + 2), q_disc_t (k := k) h1 h2 h3 h4, Reg.leaf]
  | jn w rs =>
    obtain ⟨h1, h2, h3, h4, h5⟩ := h
    have l : (regsD rs).length ≤ 8 := by rw [regsD_len]; exact h2
    simp only [Reg.d]
    simp [f14, runF, L2.ixN, List.replicate, q_half_j (k := k + 2) l, q_disc_j (k := k + 2) l, Reg.leaf]
theorem q_is_joint {k m w : Nat} {S : Sto} {rs : List Reg} (h : (Reg.jn w rs).ok m) : callF prg (k + 2) 15 [(Reg.jn w rs).d] S = some (.bl true, S) := by
  rw [cf_s (g := f15) rfl]
  obtain ⟨h1, h2, h3, h4, h5⟩ := h
  have l := regsD_len rs
  have t := s_is_tuple (k := k) (S := S) (xs := .str (wordS w) :: regsD rs) (a := 2) (b := 9)
  have e1 : decide ((2 : Int) ≤ ((D.str (wordS w) :: regsD rs).length : Int)) = true := decide_eq_true (by simp [l]; omega)
  have e2 : decide (((D.str (wordS w) :: regsD rs).length : Int) ≤ 9) = true := decide_eq_true (by simp [l]; omega)
  rw [e1, e2] at t
  simp at t
  simp only [Reg.d]
  rcases (show w = 0 ∨ w = 1 ∨ w = 2 by omega) with rfl | rfl | rfl
  · have c : cmpD .In (.str (wordS 0)) (.tup [.str "and", .str "or"]) = some true := by decide +kernel
    simp [f15, runF, L2.ixN, List.replicate, t, c]
  · have c : cmpD .In (.str (wordS 1)) (.tup [.str "and", .str "or"]) = some true := by decide +kernel
    simp [f15, runF, L2.ixN, List.replicate, t, c]
  · have c : cmpD .In (.str (wordS 2)) (.tup [.str "and", .str "or"]) = some false := by decide +kernel
    have n : rs.length = 1 := h4 rfl
    have e : decide (wordS 2 = "not") = true := by decide +kernel
    have e' : wordS 2 = "not" := of_decide_eq_true e
    rw [e'] at t c ⊢
    simp [f15, runF, L2.ixN, List.replicate, t, c, l, n]
end Pv.K13

set_option Elab.async false
set_option linter.all false
set_option maxRecDepth 100000
set_option maxHeartbeats 4000000
namespace Pv.K13
open PySem PySem.Spec PyProof.Rows L2
/-! a region is one: the stack's walk -/
abbrev whC : E := .cmp .NotEq (.bor 1) (.lst [])
abbrev whB : List C := [.spop (.tp [.nm 3, .nm 4]) 1, .ite (.call 14 [.var 3]) [.aug 2 .Add (.cst (.int 1))] [.ite (.call 15 [.var 3]) [.ext 1 (.cmpr [5] (.nm 5) (.slc (.var 3) (some (.cst (.int 1))) none) [] (.tup [.var 5, .bin .Add (.var 4) (.cst (.int 1))]))] [.ret (.cst (.bl false))]], .ite (.or (.cmp .Gt (.var 4) (.glb 8)) (.cmp .Gt (.var 2) (.glb 9))) [.ret (.cst (.bl false))] []]
theorem q_push {k : Nat} {S : Sto} {r : Rho} {rs : List Reg} {d : Nat} {v : D} (hl : r = [some (false, v), some (true, .lst []), r.getD 2 none, r.getD 3 none, some (false, .int (d : Int)), r.getD 5 none]) : True := trivial
theorem q_pushC {k : Nat} {S : Sto} {x0 x1 x2 x3 : Slot} {x5 : Slot} {d : Int} : ∀ ds : List D, compL (cmpB prg (callF prg k) [5] (.nm 5) [] (.tup [.var 5, .bin .Add (.var 4) (.cst (.int 1))]) [x0, x1, x2, x3, some (false, .int d), x5]) ds S = some (ds.map fun x => .tup [x, .int (d + 1)], S)
  | [] => rfl
  | x :: ds => compL_cons (by simp [wipeR, kTup]) (q_pushC ds)
theorem q_region_w {k m : Nat} {S : Sto} {v : D} (hm : m ≤ 3000) : ∀ (ts : Rk) (many : Nat) (x3 x4 x5 : Slot), (∀ t ∈ ts, t.1.ok m ∧ t.2 + t.1.dp ≤ 9) → many + stkNp ts ≤ 30 → stkSz ts < 5000 →
    ∃ many' x3' x4' x5', whl (cW prg (callF prg (k + 5)) whC) (bW prg (callF prg (k + 5)) whB) most [some (false, v), some (true, .lst (stkD ts)), some (false, .int (many : Int)), x3, x4, x5] S = some (.nx [some (false, v), some (true, .lst []), some (false, .int many'), x3', x4', x5'], S) := by
  intro ts many x3 x4 x5 h1 h2 h3
  obtain ⟨r1, S1, e, ⟨ts', many', y3, y4, y5, rfl, rfl, g1, g2, g3⟩, hc⟩ := whl_ind (c := cW prg (callF prg (k + 5)) whC) (b := bW prg (callF prg (k + 5)) whB)
    (fun r S' => ∃ (ts : Rk) (many : Nat) (x3 x4 x5 : Slot), r = [some (false, v), some (true, .lst (stkD ts)), some (false, .int (many : Int)), x3, x4, x5] ∧ S' = S ∧ (∀ t ∈ ts, t.1.ok m ∧ t.2 + t.1.dp ≤ 9) ∧ many + stkNp ts ≤ 30 ∧ stkSz ts < 5000)
    (fun r _ => match r with | [_, some (_, .lst ds), _, _, _, _] => stkM ds | _ => 0) (fun r S' h => by
      obtain ⟨ts, many, x3, x4, x5, rfl, rfl, h1, h2, h3⟩ := h
      have ly : Ly 13 (.lst (stkD ts)) := ly_stk (n := 9) fun t ht => by have := (h1 t ht).2; omega
      have ne := ly_ne ly (by decide)
      rw [stkD_empty] at ne
      cases ts with
      | nil =>
        left
        simp [runF, L2.ixN, List.replicate, ne]
      | cons t ts =>
        right
        refine ⟨by simp [runF, L2.ixN, List.replicate, ne], ?_⟩
        obtain ⟨r, d⟩ := t
        obtain ⟨ok, dd⟩ := h1 (r, d) List.mem_cons_self
        replace ok : r.ok m := ok
        replace dd : d + r.dp ≤ 9 := dd
        have rest : ∀ t ∈ ts, t.1.ok m ∧ t.2 + t.1.dp ≤ 9 := fun t ht => h1 t (List.mem_cons_of_mem _ ht)
        have la := stkD_last (r, d) ts
        have dr := stkD_drop (r, d) ts
        have pt := q_is_part (k := k) (S := S') ok hm
        have dp1 := r.dp_pos
        have hd8 : ¬ (8 : Int) < d := by omega
        simp only [stkNp, stkSz] at h2 h3
        cases r with
        | half a b c =>
          have hm30 : ¬ (30 : Int) < (many : Int) + 1 := by simp only [Reg.np] at h2; omega
          refine ⟨[some (false, v), some (true, .lst (stkD ts)), some (false, .int ((many + 1 : Nat) : Int)), some (false, (Reg.half a b c).d), some (false, .int (d : Int)), x5], _, ?_, ⟨ts, many + 1, _, _, _, rfl, rfl, rest, by simp only [Reg.np] at h2; omega, by simp only [Reg.sz] at h3; omega⟩, ?_⟩
          · simp [runF, L2.ixN, List.replicate, la, dr, itR, asgs, pt, Reg.leaf, hd8, hm30]
          · show stkM (stkD ts) < stkM (stkD (_ :: ts))
            exact stkM_pop _ _
        | disc x y s =>
          have hm30 : ¬ (30 : Int) < (many : Int) + 1 := by simp only [Reg.np] at h2; omega
          refine ⟨[some (false, v), some (true, .lst (stkD ts)), some (false, .int ((many + 1 : Nat) : Int)), some (false, (Reg.disc x y s).d), some (false, .int (d : Int)), x5], _, ?_, ⟨ts, many + 1, _, _, _, rfl, rfl, rest, by simp only [Reg.np] at h2; omega, by simp only [Reg.sz] at h3; omega⟩, ?_⟩
          · simp [runF, L2.ixN, List.replicate, la, dr, itR, asgs, pt, Reg.leaf, hd8, hm30]
          · show stkM (stkD ts) < stkM (stkD (_ :: ts))
            exact stkM_pop _ _
        | jn w rs =>
          have jt := q_is_joint (k := k + 3) (S := S') ok
          have hm30 : ¬ (30 : Int) < (many : Int) := by omega
          have sl : slcD (wk (deB S' (Reg.jn w rs).d)) (some 1) none = some (.tup (regsD rs)) := slc_1
          have pc := q_pushC (k := k + 5) (S := S') (x0 := some (false, v)) (x1 := some (true, .lst (stkD ts))) (x2 := some (false, .int (many : Int))) (x3 := some (false, (Reg.jn w rs).d)) (x5 := x5) (d := (d : Int)) (regsD rs)
          have ll : ts.length < 5000 := by have := stk_len ts; omega
          have rl : rs.length ≤ 8 := ok.2.1
          have len : (stkD ts).length + (regsD rs).length < 100000 := by rw [stkD_len, regsD_len]; omega
          have ps := stkD_push rs d ts
          have cst : ((d + 1 : Nat) : Int) = (d : Int) + 1 := by omega
          rw [cst] at ps
          refine ⟨[some (false, v), some (true, .lst (stkD ((rs.map fun r => (r, d + 1)).reverse ++ ts))), some (false, .int (many : Int)), some (false, (Reg.jn w rs).d), some (false, .int (d : Int)), x5], _, ?_, ⟨_, many, _, _, _, rfl, rfl, fun t ht => ?_, ?_, ?_⟩, ?_⟩
          · have l2 : (regsD rs).length < 100000 := by rw [regsD_len]; omega
            simp [runF, L2.ixN, List.replicate, la, dr, itR, asgs, pt, Reg.leaf, jt, sl, l2, pc, len, ps, hd8, hm30]
          · rcases List.mem_append.mp ht with ht | ht
            · obtain ⟨r', hr', rfl⟩ := List.mem_map.mp (List.mem_reverse.mp ht)
              have := regsDp_mem hr'
              simp only [Reg.dp] at dd
              exact ⟨regsOk_mem ok.2.2.2.2 r' hr', by simp only; omega⟩
            · exact rest t ht
          · rw [stkNp_app, stk_push_np]
            simp only [Reg.np] at h2
            omega
          · rw [stkSz_app, stk_push_sz]
            simp only [Reg.sz] at h3
            omega
          · show stkM (stkD _) < stkM (stkD (_ :: ts))
            rw [stkM_eq, stkM_eq, stkSz_app, stk_push_sz]
            simp only [stkSz, Reg.sz]
            omega) most [some (false, v), some (true, .lst (stkD ts)), some (false, .int (many : Int)), x3, x4, x5] S ⟨ts, many, x3, x4, x5, rfl, rfl, h1, h2, h3⟩ (by
        show stkM (stkD ts) < most
        rw [stkM_eq]
        exact lt_most (k := 20) (Nat.lt_trans h3 (by decide)) (by decide))
  have ly : Ly 13 (.lst (stkD ts')) := ly_stk (n := 9) fun t ht => by have := (g1 t ht).2; omega
  have ne := ly_ne ly (by decide)
  rw [stkD_empty] at ne
  have e0 : ts' = [] := by
    cases ts' with
    | nil => rfl
    | cons t ts' => simp [runF, L2.ixN, List.replicate, ne] at hc
  subst e0
  exact ⟨_, _, _, _, e⟩
theorem q_is_region {k m : Nat} {S : Sto} {r : Reg} (h : r.ok m) (hd : r.dp ≤ 8) (hn : r.np ≤ 30) (hs : r.sz < 5000) (hm : m ≤ 3000 := by omega) : callF prg (k + 6) 16 [r.d] S = some (.bl true, S) := by
  rw [cf_s (g := f16) rfl]
  obtain ⟨many', y3, y4, y5, e⟩ := q_region_w (k := k) (S := S) (v := r.d) hm [(r, 1)] 0 none none none (fun t ht => by
    rw [List.mem_singleton.mp ht]
    exact ⟨h, by show 1 + r.dp ≤ 9; omega⟩) (by simp [stkNp]; omega) (by simp [stkSz]; omega)
  have st : stkD [(r, 1)] = [.tup [r.d, .int 1]] := rfl
  rw [st] at e
  have e' : whl (cW prg (callF prg (k + 5)) whC) (bW prg (callF prg (k + 5)) whB) most [some (false, r.d), some (true, .lst [.tup [r.d, .int 1]]), some (false, .int 0), none, none, none] S = _ := e
  simp [f16, runF, L2.ixN, List.replicate, kLst, kTup, kP2b_s, okOwn, e']
theorem q_check_region {k m : Nat} {S : Sto} {r : Reg} (h : r.ok m) (hd : r.dp ≤ 8) (hn : r.np ≤ 30) (hs : r.sz < 5000) (hm : m ≤ 3000 := by omega) : callF prg (k + 7) 17 [r.d] S = some (.non, S) := by
  rw [cf_s (g := f17) rfl]
  simp [f17, runF, L2.ixN, List.replicate, q_is_region (k := k) h hd hn hs hm]
end Pv.K13

set_option Elab.async false
set_option linter.all false
set_option maxRecDepth 100000
set_option maxHeartbeats 4000000
namespace Pv.K13
open PySem PySem.Spec PyProof.Rows L2
/-! what is in a region -/
theorem bools_map : ∀ bs : List Bool, boolsOf (bs.map D.bl) = some bs
  | [] => rfl
  | b :: bs => by simp [bools_map bs]
theorem deB_reg (S : Sto) (r : Reg) : deB S r.d = r.d := by cases r <;> rfl
theorem wk_reg (r : Reg) : wk r.d = r.d := by cases r <;> rfl
theorem sz_i {m : Nat} {n : Int} (h : Bd m n) : Sz (m + 1) (n : Rat) := Sz.int (h.mono (by omega)) (by omega)
theorem q_half_worth {k m : Nat} {S : Sto} {a b c : Int} {x y : Rat} (ha : Bd m a) (hb : Bd m b) (hc : Bd m c) (hx : Sz m x) (hy : Sz m y) (hm : m ≤ 300) :
    callF prg (k + 4) 18 [.tup [.str "half", .int a, .int b, .int c], .tup [qD x, qD y]] S = some (qD ((c : Rat) - ((a : Rat) * x + (b : Rat) * y)), S) := by
  rw [cf_s (g := f18) rfl]
  have sa := (sz_i ha).mul hx (Nat.le_refl _)
  have sb := (sz_i hb).mul hy (Nat.le_refl _)
  have ss := sa.add sb (Nat.le_refl _)
  have e1 := q_times (k := k) (S := S) (sz_i ha) hx
  have e2 := q_times (k := k) (S := S) (sz_i hb) hy
  have e3 := q_plus (k := k) (S := S) sa sb
  have e4 := q_less (k := k) (S := S) (sz_i hc) ss
  simp [f18, runF, L2.ixN, List.replicate, asgs, q_whole (k := k + 2), e1, e2, e3, e4]
theorem q_square_of {k m : Nat} {S : Sto} {u v x y : Rat} (hu : Sz m u) (hv : Sz m v) (hx : Sz m x) (hy : Sz m y) (hm : m ≤ 300) :
    callF prg (k + 4) 19 [.tup [qD u, qD v], .tup [qD x, qD y]] S = some (qD ((u - x) * (u - x) + (v - y) * (v - y)), S) := by
  rw [cf_s (g := f19) rfl]
  have su := hu.sub hx (Nat.le_refl _)
  have sv := hv.sub hy (Nat.le_refl _)
  have e1 := q_less (k := k) (S := S) hu hx
  have e2 := q_less (k := k) (S := S) hv hy
  have e3 := q_times (k := k) (S := S) su su
  have e4 := q_times (k := k) (S := S) sv sv
  have e5 := q_plus (k := k) (S := S) (su.mul su (Nat.le_refl _)) (sv.mul sv (Nat.le_refl _))
  simp [f19, runF, L2.ixN, List.replicate, asgs, wipeR, zipL, e1, e2, e3, e4, e5]
theorem disc_ne : (("disc" : Str) = "half") = False := by
  simp only [eq_iff_iff, iff_false]
  decide +kernel
theorem num_ge (q : Rat) : (0 ≤ q.num) ↔ 0 ≤ q := Rat.num_nonneg
theorem reg_ne1 (w : Nat) : (wordS w = "half") = False := propext ⟨fun e => (word_ne w).1 e, False.elim⟩
theorem reg_ne2 (w : Nat) : (wordS w = "disc") = False := propext ⟨fun e => (word_ne w).2 e, False.elim⟩
mutual
theorem q_is_in_region {m : Nat} {S : Sto} {x y : Rat} (hx : Sz m x) (hy : Sz m y) (hm : m ≤ 300) : ∀ (r : Reg) (k : Nat), r.ok m → callF prg (k + 5 + r.dp) 20 [r.d, .tup [qD x, qD y]] S = some (.bl (r.mem x y), S)
  | .half a b c, k, h => by
    obtain ⟨h1, h2, h3, h4⟩ := h
    show callF prg (k + 5 + 1) _ _ _ = _
    rw [cf_s (g := f20) rfl]
    have e := q_half_worth (k := k + 1) (S := S) h1 h2 h3 hx hy hm
    have g : decide (0 ≤ ((c : Rat) - ((a : Rat) * x + (b : Rat) * y)).num) = decide ((a : Rat) * x + (b : Rat) * y ≤ (c : Rat)) := by
      rw [decide_eq_decide, num_ge, ← Rat.le_iff_sub_nonneg]
    simp only [Reg.d, Reg.mem]
    rw [← g]
    generalize (c : Rat) - ((a : Rat) * x + (b : Rat) * y) = w at e ⊢
    simp [f20, runF, L2.ixN, List.replicate, e]
    simp [qD]
  | .disc u v s, k, h => by
    obtain ⟨h1, h2, h3, h4⟩ := h
    show callF prg (k + 5 + 1) _ _ _ = _
    rw [cf_s (g := f20) rfl]
    have e := q_square_of (k := k + 1) (S := S) h1 h2 hx hy hm
    have su := h1.sub hx (Nat.le_refl _)
    have sv := h2.sub hy (Nat.le_refl _)
    have e2 := q_is_below (k := k + 4) (S := S) h3 ((su.mul su (Nat.le_refl _)).add (sv.mul sv (Nat.le_refl _)) (Nat.le_refl _))
    have g : decide ((u - x) * (u - x) + (v - y) * (v - y) ≤ s) = !decide (s < (u - x) * (u - x) + (v - y) * (v - y)) := by
      rw [← decide_not, decide_eq_decide, Rat.not_lt]
    simp only [Reg.d, Reg.mem]
    rw [g]
    simp [f20, runF, L2.ixN, List.replicate, disc_ne, e, e2, atI_m3]
  | .jn w rs, k, h => by
    obtain ⟨h1, h2, h3, h4, h5⟩ := h
    show callF prg (k + 5 + regsDp rs + 1) _ _ _ = _
    rw [cf_s (g := f20) rfl]
    have e := q_is_in_regions (S := S) hx hy hm rs k (regsDp rs) (Nat.le_refl _) (.some (false, (Reg.jn w rs).d)) none none h5
    have l2 : (regsD rs).length < 100000 := by rw [regsD_len]; omega
    have bm := bools_map (regsMem x y rs)
    simp only [Reg.d] at e ⊢
    rcases (show w = 0 ∨ w = 1 ∨ w = 2 by omega) with rfl | rfl | rfl
    · have w1 : (wordS 0 = "not") = False := by simp only [eq_iff_iff, iff_false]; decide +kernel
      have w2 : (wordS 0 = "and") = True := by simp only [eq_iff_iff, iff_true]; decide +kernel
      simp [f20, runF, L2.ixN, List.replicate, reg_ne1, reg_ne2, slc_1, l2, e, w1, w2, bm, Reg.mem]
    · have w1 : (wordS 1 = "not") = False := by simp only [eq_iff_iff, iff_false]; decide +kernel
      have w2 : (wordS 1 = "and") = False := by simp only [eq_iff_iff, iff_false]; decide +kernel
      simp [f20, runF, L2.ixN, List.replicate, reg_ne1, reg_ne2, slc_1, l2, e, w1, w2, bm, Reg.mem]
    · have w1 : (wordS 2 = "not") = True := by simp only [eq_iff_iff, iff_true]; decide +kernel
      obtain ⟨r, rfl⟩ : ∃ r, rs = [r] := List.length_eq_one_iff.mp (h4 rfl)
      simp only [regsMem, List.map_cons, List.map_nil] at e
      simp [f20, runF, L2.ixN, List.replicate, reg_ne1, reg_ne2, slc_1, l2, e, w1, Reg.mem, regsMem]
theorem q_is_in_regions {m : Nat} {S : Sto} {x y : Rat} (hx : Sz m x) (hy : Sz m y) (hm : m ≤ 300) : ∀ (rs : List Reg) (k n : Nat), regsDp rs ≤ n → ∀ (x0 x2 x3 : Slot), regsOk m rs → compL (cmpB prg (callF prg (k + 5 + n)) [3] (.nm 3) [] (.call 20 [.var 3, .var 1]) [x0, some (false, .tup [qD x, qD y]), x2, x3]) (regsD rs) S = some ((regsMem x y rs).map D.bl, S)
  | [], k, n, hn, x0, x2, x3, h => rfl
  | r :: rs, k, n, hn, x0, x2, x3, h => by
    simp only [regsDp] at hn
    have e1 := q_is_in_region (S := S) hx hy hm r (k + (n - r.dp)) h.1
    rw [show k + (n - r.dp) + 5 + r.dp = k + 5 + n by omega] at e1
    have e2 := q_is_in_regions (S := S) hx hy hm rs k n (by omega) x0 x2 x3 h.2
    exact compL_cons (by simp [wipeR, e1]) e2
end
theorem q_is_in {k m : Nat} {S : Sto} {r : Reg} {x y : Rat} (hr : r.ok m) (hx : Sz m x) (hy : Sz m y) (hm : m ≤ 300) (hd : r.dp ≤ 8) (hn : r.np ≤ 30) (hs : r.sz < 5000) : callF prg (k + 14) 21 [r.d, .tup [qD x, qD y]] S = some (.bl (r.mem x y), S) := by
  rw [cf_s (g := f21) rfl]
  have e1 := q_check_region (k := k + 6) (S := S) hr hd hn hs
  have e2 := q_check_point (k := k + 9) (S := S) hx hy
  have e3 := q_is_in_region (S := S) hx hy hm r (k + (8 - r.dp)) hr
  rw [show k + (8 - r.dp) + 5 + r.dp = k + 13 by omega] at e3
  simp [f21, runF, L2.ixN, List.replicate, e1, e2, e3]
/-! the law's own way -/
theorem ql_square_of {k m : Nat} {S : Sto} {u v x y : Rat} (hu : Sz m u) (hv : Sz m v) (hx : Sz m x) (hy : Sz m y) (hm : m ≤ 300) :
    callF prg (k + 5) 44 [.tup [qD u, qD v], .tup [qD x, qD y]] S = some (qD ((u - x) * (u - x) + (v - y) * (v - y)), S) := by
  rw [cf_s (g := f44) rfl]
  have su := hu.sub hx (Nat.le_refl _)
  have sv := hv.sub hy (Nat.le_refl _)
  have e1 := ql_minus (k := k) (S := S) hu hx
  have e2 := ql_minus (k := k) (S := S) hv hy
  have e3 := ql_times (k := k + 1) (S := S) su su
  have e4 := ql_times (k := k + 1) (S := S) sv sv
  have e5 := ql_plus (k := k + 1) (S := S) (su.mul su (Nat.le_refl _)) (sv.mul sv (Nat.le_refl _))
  simp [f44, runF, L2.ixN, List.replicate, setAll, e1, e2, e3, e4, e5]
mutual
theorem ql_is_in {m : Nat} {S : Sto} {x y : Rat} (hx : Sz m x) (hy : Sz m y) (hm : m ≤ 300) : ∀ (r : Reg) (k : Nat), r.ok m → callF prg (k + 5 + r.dp) 45 [r.d, .tup [qD x, qD y]] S = some (.bl (r.mem x y), S)
  | .half a b c, k, h => by
    obtain ⟨h1, h2, h3, h4⟩ := h
    show callF prg (k + 5 + 1) _ _ _ = _
    rw [cf_s (g := f45) rfl]
    have sa := (sz_i h1).mul hx (Nat.le_refl _)
    have sb := (sz_i h2).mul hy (Nat.le_refl _)
    have e1 := ql_times (k := k + 2) (S := S) (sz_i h1) hx
    have e2 := ql_times (k := k + 2) (S := S) (sz_i h2) hy
    have e3 := ql_plus (k := k + 2) (S := S) sa sb
    have e4 := ql_is_upto (k := k + 4) (S := S) (sa.add sb (Nat.le_refl _)) (sz_i h3)
    rw [qD_int] at e1 e2 e4
    simp only [Reg.d, Reg.mem]
    simp [f45, runF, L2.ixN, List.replicate, kTup, e1, e2, e3, e4]
  | .disc u v s, k, h => by
    obtain ⟨h1, h2, h3, h4⟩ := h
    show callF prg (k + 5 + 1) _ _ _ = _
    rw [cf_s (g := f45) rfl]
    have e := ql_square_of (k := k) (S := S) h1 h2 hx hy hm
    have su := h1.sub hx (Nat.le_refl _)
    have sv := h2.sub hy (Nat.le_refl _)
    have e2 := ql_is_upto (k := k + 4) (S := S) ((su.mul su (Nat.le_refl _)).add (sv.mul sv (Nat.le_refl _)) (Nat.le_refl _)) h3
    simp only [Reg.d, Reg.mem]
    simp [f45, runF, L2.ixN, List.replicate, disc_ne, e, e2]
  | .jn w rs, k, h => by
    obtain ⟨h1, h2, h3, h4, h5⟩ := h
    show callF prg (k + 5 + regsDp rs + 1) _ _ _ = _
    rw [cf_s (g := f45) rfl]
    have e := ql_is_ins (S := S) hx hy hm rs k (regsDp rs) (Nat.le_refl _) (.some (false, (Reg.jn w rs).d)) none none h5
    have l2 : (regsD rs).length < 100000 := by rw [regsD_len]; omega
    have bm := bools_map (regsMem x y rs)
    simp only [Reg.d] at e ⊢
    rcases (show w = 0 ∨ w = 1 ∨ w = 2 by omega) with rfl | rfl | rfl
    · have w2 : (wordS 0 = "and") = True := by simp only [eq_iff_iff, iff_true]; decide +kernel
      simp [f45, runF, L2.ixN, List.replicate, reg_ne1, reg_ne2, slc_1, l2, e, w2, bm, Reg.mem]
    · have w1 : (wordS 1 = "or") = True := by simp only [eq_iff_iff, iff_true]; decide +kernel
      have w2 : (wordS 1 = "and") = False := by simp only [eq_iff_iff, iff_false]; decide +kernel
      simp [f45, runF, L2.ixN, List.replicate, reg_ne1, reg_ne2, slc_1, l2, e, w1, w2, bm, Reg.mem]
    · have w1 : (wordS 2 = "and") = False := by simp only [eq_iff_iff, iff_false]; decide +kernel
      have w2 : (wordS 2 = "or") = False := by simp only [eq_iff_iff, iff_false]; decide +kernel
      obtain ⟨r, rfl⟩ : ∃ r, rs = [r] := List.length_eq_one_iff.mp (h4 rfl)
      simp only [regsMem, List.map_cons, List.map_nil] at e
      simp [f45, runF, L2.ixN, List.replicate, reg_ne1, reg_ne2, slc_1, l2, e, w1, w2, Reg.mem, regsMem]
theorem ql_is_ins {m : Nat} {S : Sto} {x y : Rat} (hx : Sz m x) (hy : Sz m y) (hm : m ≤ 300) : ∀ (rs : List Reg) (k n : Nat), regsDp rs ≤ n → ∀ (x0 x2 x3 : Slot), regsOk m rs → compL (cmpB prg (callF prg (k + 5 + n)) [3] (.nm 3) [] (.call 45 [.var 3, .var 1]) [x0, some (false, .tup [qD x, qD y]), x2, x3]) (regsD rs) S = some ((regsMem x y rs).map D.bl, S)
  | [], k, n, hn, x0, x2, x3, h => rfl
  | r :: rs, k, n, hn, x0, x2, x3, h => by
    simp only [regsDp] at hn
    have e1 := ql_is_in (S := S) hx hy hm r (k + (n - r.dp)) h.1
    rw [show k + (n - r.dp) + 5 + r.dp = k + 5 + n by omega] at e1
    have e2 := ql_is_ins (S := S) hx hy hm rs k n (by omega) x0 x2 x3 h.2
    exact compL_cons (by simp [wipeR, e1]) e2
end
end Pv.K13

set_option Elab.async false
set_option linter.all false
set_option maxRecDepth 100000
set_option maxHeartbeats 4000000
namespace Pv.K13
open PySem PySem.Spec PyProof.Rows L2

/-- a pot at the place n of the store, at most c draws behind the own digits -/
def PotOk (S : Sto) (n : Nat) (c : Nat) : Prop := ∃ x y z : Int, S[n]? = some [.int x, .int y, .int z] ∧ 0 ≤ y ∧ Bd 61 y ∧ 0 ≤ z ∧ z ≤ c
theorem PotOk.mono {S : Sto} {n c e : Nat} (h : PotOk S n c) (q : c ≤ e) : PotOk S n e := by
  obtain ⟨x, y, z, h1, h2, h3, h4, h5⟩ := h
  exact ⟨x, y, z, h1, h2, h3, h4, by omega⟩
theorem deB_ref {S : Sto} {n : Nat} {ds : List D} (h : S[n]? = some ds) : deB S (.ref n) = .lst ds := by
  show (match S[n]? with | some ds => D.lst ds | none => D.ref n) = _
  rw [h]
theorem b_pow {i j : Int} (h : szPow i j = true) : binD .Pow (.int i) (.int j) = some (.int (i ^ j.toNat)) := if_pos h
theorem l_take {k : Nat} {S : Sto} {n c : Nat} {u : Int} (hu : 0 < u) (bu : Bd 60 u) (hp : PotOk S n c) (hc : c ≤ 100000) :
    ∃ v S', callF prg (k + 1) 32 [.ref n, .int u] S = some (.int v, S') ∧ 0 ≤ v ∧ v < u ∧ PotOk S' n (c + 1) ∧ S'.length = S.length := by
  obtain ⟨x, y, z, h1, hy, by', hz, hzc⟩ := hp
  have hn := (List.getElem?_eq_some_iff.mp h1).1
  have fm : ∀ (a : Int) {b : Int}, 0 < b → binD .Mod (.int a) (.int b) = some (.int (a % b)) := fun a b hb => by rw [b_mod (by omega), Int.fmod_eq_emod_of_nonneg _ (by omega)]
  have fd : ∀ (a : Int) {b : Int} {i : Nat}, 0 < b → Bd 60 b → binD .FloorDiv (.int a) (.int b) = some (.int (a / b)) := fun a b i hb bb => by rw [b_div (szDiv_ok (by omega) bb), Int.fdiv_eq_ediv_of_nonneg _ (by omega)]
  by_cases hx : 0 < x
  · refine ⟨x % u, S.set n [.int (x / u), .int y, .int z], ?_, Int.emod_nonneg _ (by omega), Int.emod_lt_of_pos _ hu, ⟨x / u, y, z, List.getElem?_set_self hn, hy, by', hz, by omega⟩, List.length_set⟩
    rw [cf_s (g := f32) rfl]
    have tk : (S.set n [.int (x / u), .int y, .int z]).take S.length = S.set n [.int (x / u), .int y, .int z] := by
      rw [List.take_of_length_le (by rw [List.length_set]; exact Nat.le_refl _)]
    simp [f32, runF, L2.ixN, List.replicate, deB_ref h1, h1, hx, fm x hu, fd x (i := 0) hu bu, tk]
  · obtain ⟨S1, hS1⟩ : ∃ S1, S1 = S.set n [.int x, .int y, .int (z + 1)] := ⟨_, rfl⟩
    have g1 : S1[n]? = some [.int x, .int y, .int (z + 1)] := by rw [hS1]; exact List.getElem?_set_self hn
    have tk : S1.take S.length = S1 := by
      rw [hS1, List.take_of_length_le (by rw [List.length_set]; exact Nat.le_refl _)]
    have bz : Bd 20 (z + 1) := by
      unfold Bd
      have : (2 : Nat) ^ 20 = 1048576 := by decide
      omega
    obtain ⟨q, hq, q0, bq⟩ : ∃ q : Int, idxD (.lst [.int 2147483647, .int 2147483629, .int 2147483587, .int 2147483579, .int 2147483563]) (.int ((z + 1) % 5)) = some (.int q) ∧ 0 < q ∧ Bd 31 q := by
      have hm : (z + 1) % 5 = 0 ∨ (z + 1) % 5 = 1 ∨ (z + 1) % 5 = 2 ∨ (z + 1) % 5 = 3 ∨ (z + 1) % 5 = 4 := by omega
      rcases hm with h | h | h | h | h <;> rw [h] <;> exact ⟨_, rfl, by decide, by unfold Bd; decide⟩
    have bc : Bd 20 100337 := by unfold Bd; decide
    have m1 := b_mul (szMul_ok bc bz)
    have m2 := b_mul (szMul_ok (bc.mul bz) bz)
    have bw : Bd 80 (y + 100337 * (z + 1) * (z + 1) + 1235) := (by'.add ((bc.mul bz).mul bz) (m := 70) (by omega) (by omega)).add (show Bd 20 1235 by unfold Bd; decide) (by omega) (by omega)
    have pw : binD .Pow (.int (y + 100337 * (z + 1) * (z + 1) + 1235)) (.int 3) = some (.int ((y + 100337 * (z + 1) * (z + 1) + 1235) ^ 3)) := b_pow (by
      have := bw.log
      unfold szPow
      simp only [Bool.and_eq_true, decide_eq_true_eq]
      exact ⟨⟨by decide, by decide⟩, by omega⟩)
    generalize (y + 100337 * (z + 1) * (z + 1) + 1235) ^ 3 = w at *
    have w0 := Int.emod_nonneg w (b := q) (by omega)
    have w1 := Int.emod_lt_of_pos w q0
    have bw2 : Bd 31 (w % q) := bq.le (by omega)
    have bt : Bd 20 10927 := by unfold Bd; decide
    have be : Bd 20 (w % q % 10927) := by
      have h1 := Int.emod_nonneg (w % q) (b := 10927) (by decide)
      have h2 := Int.emod_lt_of_pos (w % q) (b := 10927) (by decide)
      exact bt.le (by omega)
    have m3 := b_mul (szMul_ok (show Bd 20 441 by unfold Bd; decide) bz)
    have bs : Bd 60 (w % q % 10927 + 441 * (z + 1)) := be.add ((show Bd 20 441 by unfold Bd; decide).mul bz) (by omega) (by omega)
    have m4 := b_mul (szMul_ok bw2 bs)
    refine ⟨w % q * (w % q % 10927 + 441 * (z + 1)) / 265 % u, S1, ?_, Int.emod_nonneg _ (by omega), Int.emod_lt_of_pos _ hu, ⟨x, y, z + 1, g1, hy, by', by omega, by omega⟩, by rw [hS1, List.length_set]⟩
    rw [cf_s (g := f32) rfl]
    have a1 : ∀ a : Int, binD .Mod (.int a) (.int 5) = some (.int (a % 5)) := fun a => fm a (by decide)
    have a2 : ∀ a : Int, binD .Mod (.int a) (.int 10927) = some (.int (a % 10927)) := fun a => fm a (by decide)
    have a3 : ∀ a : Int, binD .FloorDiv (.int a) (.int 265) = some (.int (a / 265)) := fun a => fd a (i := 0) (by decide) (by unfold Bd; decide)
    rw [idx_l] at hq
    generalize hmm : (z + 1) % 5 = zm at *
    simp [runF, L2.ixN, List.replicate, f32, deB_ref h1, h1, hx, ← hS1, deB_ref g1, a1, hmm, hq, m1, m2, pw, fm w q0, a2, m3, m4, a3, fm _ hu, tk]
theorem tkl {S S' : Sto} (h : S'.length = S.length) : S'.take S.length = S' := by rw [← h]; exact List.take_length
theorem l_of {k : Nat} {S : Sto} {n c : Nat} {xs : List D} (hl : 0 < xs.length) (hl2 : xs.length ≤ 100000) (hx : ∀ d ∈ xs, d.pure = true) (hp : PotOk S n c) (hc : c ≤ 100000) :
    ∃ d S', callF prg (k + 2) 33 [.ref n, .lst xs] S = some (d, S') ∧ d ∈ xs ∧ PotOk S' n (c + 1) ∧ S'.length = S.length := by
  obtain ⟨v, S1, e, h0, h1, h2, h3⟩ := l_take (k := k) (u := (xs.length : Int)) (by omega) (bd_of (k := 60) 100000 (by omega)) hp hc
  obtain ⟨d, hd, ed⟩ := atI_in h0 h1
  refine ⟨d, S1, ?_, hd, h2, h3⟩
  rw [cf_s (g := f33) rfl]
  simp [f33, runF, L2.ixN, List.replicate, e, ed, hx d hd, tkl h3]
/-! drawn fractions, points, regions -/
theorem l_of_t {k : Nat} {S : Sto} {n c : Nat} {xs : List D} (hl : 0 < xs.length) (hl2 : xs.length ≤ 100000) (hx : ∀ d ∈ xs, d.pure = true) (hp : PotOk S n c) (hc : c ≤ 100000) :
    ∃ d S', callF prg (k + 2) 33 [.ref n, .tup xs] S = some (d, S') ∧ d ∈ xs ∧ PotOk S' n (c + 1) ∧ S'.length = S.length := by
  obtain ⟨v, S1, e, h0, h1, h2, h3⟩ := l_take (k := k) (u := (xs.length : Int)) (by omega) (bd_of (k := 60) 100000 (by omega)) hp hc
  obtain ⟨d, hd, ed⟩ := atI_in h0 h1
  refine ⟨d, S1, ?_, hd, h2, h3⟩
  rw [cf_s (g := f33) rfl]
  simp [f33, runF, L2.ixN, List.replicate, e, ed, hx d hd, tkl h3]
theorem l_drawn_fraction {k : Nat} {S : Sto} {n c : Nat} {most : Int} (h0 : 1 ≤ most) (h1 : most ≤ 20) (hp : PotOk S n c) (hc : c ≤ 90000) :
    ∃ q S', callF prg (k + 3) 37 [.ref n, .int most] S = some (qD q, S') ∧ Sz 6 q ∧ PotOk S' n (c + 2) ∧ S'.length = S.length := by
  rw [cf_s (g := f37) rfl]
  obtain ⟨v, S1, e1, a1, b1, p1, l1⟩ := l_take (k := k + 1) (u := 2 * most + 1) (by omega) (bd_of 41 (by omega)) hp (by omega)
  obtain ⟨d, S2, e2, m2, p2, l2⟩ := l_of (k := k) (xs := [.int 1, .int 1, .int 1, .int 2, .int 3]) (by decide) (by decide) (by decide) p1 (by omega)
  have hd : ∃ b : Int, d = .int b ∧ 1 ≤ b ∧ b ≤ 3 := by
    simp only [List.mem_cons, List.not_mem_nil, or_false] at m2
    rcases m2 with rfl | rfl | rfl | rfl | rfl <;> exact ⟨_, rfl, by decide, by decide⟩
  obtain ⟨b, rfl, b0, b3⟩ := hd
  have bb : Bd 6 b := bd_of 3 (by omega)
  have bv : Bd 6 (v - most) := bd_of 40 (by omega)
  have ef := l_fraction (k := k) (S := S2) (a := v - most) (b := b) (by omega) (bb.mono (by decide))
  rw [fr_rat (by omega)] at ef
  have mm : binD .Mult (.int 2) (.int most) = some (.int (2 * most)) := b_mul (szMul_ok bd2 (bd_of (k := 6) 20 (by omega)))
  have hl : S2.length = S.length := by omega
  refine ⟨((v - most : Int) : Rat) / (b : Rat), S2, ?_, sz_frac (by omega) bv bb, p2.mono (by omega), hl⟩
  simp [f37, runF, L2.ixN, List.replicate, mm, e1, e2, ef, tkl hl]
theorem l_drawn_point {k : Nat} {S : Sto} {n c : Nat} {most : Int} (h0 : 1 ≤ most) (h1 : most ≤ 20) (hp : PotOk S n c) (hc : c ≤ 80000) :
    ∃ x y S', callF prg (k + 4) 38 [.ref n, .int most] S = some (.tup [qD x, qD y], S') ∧ Sz 6 x ∧ Sz 6 y ∧ PotOk S' n (c + 4) ∧ S'.length = S.length := by
  rw [cf_s (g := f38) rfl]
  obtain ⟨x, S1, e1, s1, p1, l1⟩ := l_drawn_fraction (k := k) h0 h1 hp (by omega)
  obtain ⟨y, S2, e2, s2, p2, l2⟩ := l_drawn_fraction (k := k) h0 h1 p1 (by omega)
  have hl : S2.length = S.length := by omega
  refine ⟨x, y, S2, ?_, s1, s2, p2, hl⟩
  simp [f38, runF, L2.ixN, List.replicate, kTup, e1, e2, tkl hl]
/-- what a drawn region is -/
structure DrawnR (d : Nat) (r : Reg) : Prop where
  ok : r.ok 8
  dp : r.dp ≤ d + 1
  np : r.np ≤ 3 ^ d
  sz : r.sz ≤ 4 ^ (d + 1)
theorem drawn_jn {d w : Nat} {rs : List Reg} (h1 : 1 ≤ rs.length) (h2 : rs.length ≤ 3) (hw : w ≤ 1) (h : ∀ r ∈ rs, DrawnR d r) : DrawnR (d + 1) (.jn w rs) := by
  have n1 := regsNp_le fun r hr => (h r hr).np
  have s1 : regsSz rs ≤ 4 ^ (d + 1) * rs.length := by
    clear h1 h2 n1
    induction rs with
    | nil => simp [regsSz]
    | cons r rs ih =>
      have := (h r List.mem_cons_self).sz
      have := ih fun x hx => h x (List.mem_cons_of_mem _ hx)
      simp only [regsSz, List.length_cons, Nat.mul_add, Nat.mul_one]
      omega
  have e3 : 3 ^ (d + 1) = 3 * 3 ^ d := by rw [Nat.pow_succ, Nat.mul_comm]
  have e4 : 4 ^ (d + 1 + 1) = 4 * 4 ^ (d + 1) := by rw [Nat.pow_succ, Nat.mul_comm]
  have p4 : 1 ≤ 4 ^ (d + 1) := Nat.pow_pos (by decide)
  have k1 : 3 ^ d * rs.length ≤ 3 ^ d * 3 := Nat.mul_le_mul_left _ h2
  have k2 : 4 ^ (d + 1) * rs.length ≤ 4 ^ (d + 1) * 3 := Nat.mul_le_mul_left _ h2
  refine ⟨⟨h1, by omega, by omega, fun e => by omega, regsOk_of fun r hr => (h r hr).ok⟩, ?_, ?_, ?_⟩
  · have := regsDp_le fun r hr => (h r hr).dp
    simp only [Reg.dp]
    omega
  · simp only [Reg.np]
    omega
  · simp only [Reg.sz]
    omega
theorem drawn_not {d : Nat} {r : Reg} (h : DrawnR d r) : DrawnR (d + 1) (.jn 2 [r]) := by
  have e3 : 3 ^ (d + 1) = 3 * 3 ^ d := by rw [Nat.pow_succ, Nat.mul_comm]
  have p3 : 1 ≤ 3 ^ d := Nat.pow_pos (by decide)
  have e4 : 4 ^ (d + 1 + 1) = 4 * 4 ^ (d + 1) := by rw [Nat.pow_succ, Nat.mul_comm]
  have p4 : 1 ≤ 4 ^ (d + 1) := Nat.pow_pos (by decide)
  have h1 := h.dp
  have h2 := h.np
  have h3 := h.sz
  refine ⟨⟨by simp, by simp, by decide, fun _ => rfl, h.ok, trivial⟩, ?_, ?_, ?_⟩
  · simp only [Reg.dp, regsDp]; omega
  · simp only [Reg.np, regsNp]; omega
  · simp only [Reg.sz, regsSz]; omega
theorem DrawnR.up {d e : Nat} {r : Reg} (h : DrawnR d r) (k : d ≤ e) : DrawnR e r := by
  have p := Nat.pow_le_pow_right (show 0 < 3 by decide) k
  have p4 := Nat.pow_le_pow_right (show 0 < 4 by decide) (show d + 1 ≤ e + 1 by omega)
  have h1 := h.dp
  have h2 := h.np
  have h3 := h.sz
  exact ⟨h.ok, by omega, by omega, by omega⟩
theorem drawn_many {n : Nat} {P : Reg → Prop} {T : Nat} {f : D → Sto → Option (Option D × Sto)} (step : ∀ (x : D) (S : Sto) (c : Nat), PotOk S n c → c + T ≤ 70000 → ∃ r S', f x S = some (some (Reg.d r), S') ∧ P r ∧ PotOk S' n (c + T) ∧ S'.length = S.length) :
    ∀ (xs : List D) (S : Sto) (c : Nat), PotOk S n c → c + T * xs.length ≤ 70000 → ∃ rs S', compL f xs S = some (regsD rs, S') ∧ rs.length = xs.length ∧ (∀ r ∈ rs, P r) ∧ PotOk S' n (c + T * xs.length) ∧ S'.length = S.length
  | [], S, c, hp, hc => ⟨[], S, rfl, rfl, (fun r hr => nomatch hr), by simpa using hp, rfl⟩
  | x :: xs, S, c, hp, hc => by
    simp only [List.length_cons, Nat.mul_add, Nat.mul_one] at hc
    obtain ⟨r, S1, e1, h1, p1, l1⟩ := step x S c hp (by omega)
    obtain ⟨rs, S2, e2, l2, h2, p2, l3⟩ := drawn_many step xs S1 (c + T) p1 (by omega)
    refine ⟨r :: rs, S2, compL_cons e1 e2, by simp [l2], fun y hy => ?_, ?_, by omega⟩
    · rcases List.mem_cons.mp hy with rfl | hy
      · exact h1
      · exact h2 y hy
    · simp only [List.length_cons, Nat.mul_add, Nat.mul_one]
      exact p2.mono (by omega)
theorem p_ints {a b : Int} (ha : a ≠ 0 ∨ b ≠ 0) (hb : Bd 8 a) (hc : Bd 8 b) {c : Int} (h : Bd 8 c) : DrawnR 0 (.half a b c) := ⟨⟨hb, hc, h, ha⟩, by simp [Reg.dp], by simp [Reg.np], by simp [Reg.sz]⟩
theorem r_len (lo : Int) (m : Nat) : (rangeL lo m).length = m := by simp [rangeL]
theorem rg_ok {z : Int} (h0 : 0 ≤ z) (h1 : z ≤ 1000) : rngD [.int z] = some (rangeL 0 z.toNat) := if_pos (by
  unfold rangeOk
  simp only [Bool.and_eq_true, decide_eq_true_eq]
  refine ⟨⟨⟨⟨?_, ?_⟩, ?_⟩, ?_⟩, ?_⟩ <;> first | decide | omega)
theorem l_drawn_region : ∀ (d : Nat) (z : Int), z = (d : Int) → d ≤ 3 → ∀ (k n c : Nat) (S : Sto), PotOk S n c → c + 8 * 4 ^ d ≤ 70000 →
    ∃ r S', callF prg (k + 5 + d) 39 [.ref n, .int z] S = some (Reg.d r, S') ∧ DrawnR d r ∧ PotOk S' n (c + 8 * 4 ^ d) ∧ S'.length = S.length := by
  intro d
  have leaf : ∀ (d : Nat) (z v : Int) (S S1 : Sto) (k n c : Nat), v < 4 → 0 ≤ v → PotOk S1 n (c + 1) → c ≤ 70000 → S1.length = S.length →
      evE prg (callF prg (k + 4 + d)) (.ite (.cmp .Gt (.var 1) (.cst (.int 0))) (.call 32 [.var 0, .cst (.int 7)]) (.call 32 [.var 0, .cst (.int 3)])) [some (false, .ref n), some (false, .int z), none, none, none, none] S = some (.int v, S1) →
      ∃ r S', callF prg (k + 4 + d + 1) 39 [.ref n, .int z] S = some (Reg.d r, S') ∧ DrawnR 0 r ∧ PotOk S' n (c + 8) ∧ S'.length = S.length := by
    intro d z v S S1 k n c hv hv0 hp hc hl he
    rw [cf_s (g := f39) rfl]
    have hb : f39.body = .set 2 (.ite (.cmp .Gt (.var 1) (.cst (.int 0))) (.call 32 [.var 0, .cst (.int 7)]) (.call 32 [.var 0, .cst (.int 3)])) :: f39.body.tail := rfl
    have hN : f39.N.length = 6 := rfl
    have hn : f39.np = 2 := rfl
    simp only [runF, hN, hn]
    rw [hb]
    simp only [List.length_cons, List.length_nil, List.map_cons, List.map_nil, List.replicate, List.cons_append, List.nil_append, y_c, y_set, he]
    by_cases h0 : v = 0
    · subst h0
      obtain ⟨ab, S2, e2, m2, p2, l2⟩ := l_of (k := k + 2 + d) (xs := [.tup [.int 1, .int 0], .tup [.int 0, .int 1], .tup [.int (-1), .int 0], .tup [.int 0, .int (-1)], .tup [.int 1, .int 1], .tup [.int 2, .int (-1)], .tup [.int (-3), .int 2]]) (by decide) (by decide) (by decide) hp (by omega)
      obtain ⟨w, S3, e3, a3, b3, p3, l3⟩ := l_take (k := k + 3 + d) (u := 9) (by decide) (bd_of 9 (by decide)) p2 (by omega)
      have hab : ∃ a b : Int, ab = .tup [.int a, .int b] ∧ (a ≠ 0 ∨ b ≠ 0) ∧ Bd 8 a ∧ Bd 8 b := by
        simp only [List.mem_cons, List.not_mem_nil, or_false] at m2
        rcases m2 with rfl | rfl | rfl | rfl | rfl | rfl | rfl <;> exact ⟨_, _, rfl, by decide, by unfold Bd; decide, by unfold Bd; decide⟩
      obtain ⟨a, b, rfl, hne, ba, bb⟩ := hab
      have hl3 : S3.length = S.length := by omega
      rw [show k + 2 + d + 2 = k + 4 + d by omega] at e2
      rw [show k + 3 + d + 1 = k + 4 + d by omega] at e3
      refine ⟨.half a b (w - 4), S3, ?_, p_ints hne ba bb (bd_of 10 (by omega)), p3.mono (by omega), hl3⟩
      simp [f39, runF, L2.ixN, List.replicate, asgs, kTup, e2, e3, tkl hl3, Reg.d]
    · obtain ⟨x, y, S2, e2, sx, sy, p2, l2⟩ := l_drawn_point (k := k + d) (most := 3) (by decide) (by decide) hp (by omega)
      obtain ⟨sq, S3, e3, m3, p3, l3⟩ := l_of (k := k + 2 + d) (xs := [.tup [.int 1, .int 1], .tup [.int 2, .int 1], .tup [.int 4, .int 1], .tup [.int 9, .int 4], .tup [.int 0, .int 1], .tup [.int 5, .int 1]]) (by decide) (by decide) (by decide) p2 (by omega)
      have hs : ∃ s : Rat, sq = qD s ∧ 0 ≤ s ∧ Sz 8 s := by
        simp only [List.mem_cons, List.not_mem_nil, or_false] at m3
        rcases m3 with rfl | rfl | rfl | rfl | rfl | rfl
        · exact ⟨1, rfl, by decide, ⟨by unfold Bd; decide, by unfold Bd; decide⟩⟩
        · exact ⟨2, rfl, by decide, ⟨by unfold Bd; decide, by unfold Bd; decide⟩⟩
        · exact ⟨4, rfl, by decide, ⟨by unfold Bd; decide, by unfold Bd; decide⟩⟩
        · exact ⟨mkRat 9 4, rfl, by decide, ⟨by unfold Bd; decide, by unfold Bd; decide⟩⟩
        · exact ⟨0, rfl, by decide, ⟨by unfold Bd; decide, by unfold Bd; decide⟩⟩
        · exact ⟨5, rfl, by decide, ⟨by unfold Bd; decide, by unfold Bd; decide⟩⟩
      obtain ⟨s, rfl, s0, ss⟩ := hs
      have hl3 : S3.length = S.length := by omega
      rw [show k + d + 4 = k + 4 + d by omega] at e2
      rw [show k + 2 + d + 2 = k + 4 + d by omega] at e3
      refine ⟨.disc x y s, S3, ?_, ⟨⟨sx.mono (by decide), sy.mono (by decide), ss, s0⟩, by simp [Reg.dp], by simp [Reg.np], by simp [Reg.sz]⟩, p3.mono (by omega), hl3⟩
      simp [f39, runF, L2.ixN, List.replicate, kTup, h0, hv, e2, e3, tkl hl3, Reg.d]
  induction d with
  | zero =>
    intro z hz hd k n c S hp hc
    subst hz
    obtain ⟨v, S1, e1, a1, b1, p1, l1⟩ := l_take (k := k + 3) (u := 3) (by decide) (bd_of 3 (by decide)) hp (by omega)
    exact leaf 0 0 v S S1 k n c (by omega) a1 p1 (by omega) l1 (by simp [runF, L2.ixN, List.replicate, e1])
  | succ d ih =>
    intro z hz hd k n c S hp hc
    have pw : 4 ^ (d + 1) = 4 * 4 ^ d := by rw [Nat.pow_succ, Nat.mul_comm]
    have p4 : 1 ≤ 4 ^ d := Nat.pow_pos (by decide)
    have p44 : 4 ^ d ≤ 4 ^ 2 := Nat.pow_le_pow_right (by decide) (by omega)
    obtain ⟨v, S1, e1, a1, b1, p1, l1⟩ := l_take (k := k + 4 + d) (u := 7) (by decide) (bd_of 7 (by decide)) hp (by omega)
    have hz0 : 0 < z := by omega
    by_cases hv : v < 4
    · obtain ⟨r, S', e, dr, pp, ll⟩ := leaf (d + 1) z v S S1 k n c hv a1 p1 (by omega) l1 (by
        rw [show k + 4 + (d + 1) = k + 4 + d + 1 by omega]
        simp [runF, L2.ixN, List.replicate, hz0, e1])
      rw [show k + 4 + (d + 1) + 1 = k + 5 + (d + 1) by omega] at e
      exact ⟨r, S', e, dr.up (by omega), pp.mono (by omega), ll⟩
    · show ∃ r S', callF prg (k + 5 + d + 1) _ _ _ = _ ∧ _
      have ez : z - 1 = (d : Int) := by omega
      by_cases h6 : v = 6
      · subst h6
        obtain ⟨r, S2, e2, dr, p2, l2⟩ := ih (z - 1) ez (by omega) k n (c + 1) S1 p1 (by omega)
        have hl2 : S2.length = S.length := by omega
        refine ⟨.jn 2 [r], S2, ?_, drawn_not dr, p2.mono (by omega), hl2⟩
        rw [cf_s (g := f39) rfl]
        rw [show k + 4 + d + 1 = k + 5 + d by omega] at e1
        have pr := reg_pure r
        simp [f39, runF, L2.ixN, List.replicate, kTup, hz0, e1, e2, tkl hl2, Reg.d, regsD, wordS, pr]
      · obtain ⟨ww, S2, e2, m2, p2, l2⟩ := l_of (k := k + 3 + d) (xs := [.str "and", .str "or"]) (by decide) (by decide) (by decide) p1 (by omega)
        obtain ⟨u, S3, e3, a3, b3, p3, l3⟩ := l_take (k := k + 4 + d) (u := 3) (by decide) (bd_of 3 (by decide)) p2 (by omega)
        have hw : ∃ w : Nat, ww = .str (wordS w) ∧ w ≤ 1 := by
          simp only [List.mem_cons, List.not_mem_nil, or_false] at m2
          rcases m2 with rfl | rfl
          · exact ⟨0, rfl, by decide⟩
          · exact ⟨1, rfl, by decide⟩
        obtain ⟨w, rfl, w1⟩ := hw
        have rg := rg_ok (z := 1 + u) (by omega) (by omega)
        have lr := r_len 0 (1 + u).toNat
        obtain ⟨rs, S4, e4, l4, hP, p4', l5⟩ := drawn_many (n := n) (P := DrawnR d) (T := 8 * 4 ^ d) (f := cmpB prg (callF prg (k + 5 + d)) [5] (.nm 5) [] (.call 39 [.var 0, .bin .Sub (.var 1) (.cst (.int 1))]) [some (false, .ref n), some (false, .int z), some (false, .int v), none, none, none]) (fun x S c hp hc => by
          obtain ⟨r, S', e, dr, pp, ll⟩ := ih (z - 1) ez (by omega) k n c S hp (by omega)
          exact ⟨r, S', by simp [wipeR, e], dr, pp, ll⟩) (rangeL 0 (1 + u).toNat) S3 (c + 3) p3 (by
            rw [lr]
            have : (1 + u).toNat ≤ 3 := by omega
            have := Nat.mul_le_mul_left (8 * 4 ^ d) this
            omega)
        rw [lr] at l4 p4'
        have h3 : (1 + u).toNat ≤ 3 := by omega
        have h33 := Nat.mul_le_mul_left (8 * 4 ^ d) h3
        have hl4 : S4.length = S.length := by omega
        refine ⟨.jn w rs, S4, ?_, drawn_jn (by omega) (by omega) w1 hP, p4'.mono (by omega), hl4⟩
        rw [cf_s (g := f39) rfl]
        rw [show k + 4 + d + 1 = k + 5 + d by omega] at e1 e3
        rw [show k + 3 + d + 2 = k + 5 + d by omega] at e2
        have lrl : (rangeL 0 (1 + u).toNat).length < 100000 := by omega
        have ad : binD .Add (.tup [.str (wordS w)]) (.tup (regsD rs)) = some (.tup (.str (wordS w) :: regsD rs)) := by
          have : [D.str (wordS w)].length + (regsD rs).length ≤ 100000 := by rw [regsD_len]; simp; omega
          show (if _ then _ else _) = _
          rw [if_pos this]
          rfl
        have pr := regs_pure rs
        have hv0 : ¬ v = 0 := by omega
        simp [f39, runF, L2.ixN, List.replicate, kTup, hz0, hv0, hv, h6, e1, e2, e3, rg, lrl, e4, ad, pr, tkl hl4, Reg.d]
end Pv.K13

set_option Elab.async false
set_option linter.all false
set_option maxRecDepth 100000
set_option maxHeartbeats 4000000
namespace Pv.K13
open PySem PySem.Spec PyProof.Rows L2
/-! moved regions -/
theorem q_moved_half {k m : Nat} {S : Sto} {a b c : Int} {u v : Rat} (ha : Bd m a) (hb : Bd m b) (hc : Bd m c) (hu : Sz m u) (hv : Sz m v) (hm : m ≤ 300) :
    callF prg (k + 4) 28 [.tup [.str "half", .int a, .int b, .int c], .tup [qD u, qD v]] S = some ((Reg.mv u v (.half a b c)).d, S) := by
  rw [cf_s (g := f28) rfl]
  have sa := (sz_i ha).mul hu (Nat.le_refl _)
  have sb := (sz_i hb).mul hv (Nat.le_refl _)
  have ss := sa.add sb (Nat.le_refl _)
  have e1 := q_times (k := k) (S := S) (sz_i ha) hu
  have e2 := q_times (k := k) (S := S) (sz_i hb) hv
  have e3 := q_plus (k := k) (S := S) sa sb
  have e4 := q_plus (k := k) (S := S) (sz_i hc) ss
  have sw := (sz_i hc).add ss (Nat.le_refl _)
  simp only [Reg.mv, Reg.d]
  generalize (c : Rat) + ((a : Rat) * u + (b : Rat) * v) = w at e4 sw ⊢
  have m1 := b_mul (szMul_ok (ha.mono (by omega : m ≤ 3000)) (Bd.mono (l := 3000) sw.d (by omega)))
  have m2 := b_mul (szMul_ok (hb.mono (by omega : m ≤ 3000)) (Bd.mono (l := 3000) sw.d (by omega)))
  rw [show qD w = .tup [.int w.num, .int (w.den : Int)] from rfl] at e4
  simp [f28, runF, L2.ixN, List.replicate, asgs, kTup, q_whole (k := k + 2), e1, e2, e3, e4, m1, m2]
theorem ql_moved_half {k m : Nat} {S : Sto} {a b c : Int} {u v : Rat} (ha : Bd m a) (hb : Bd m b) (hc : Bd m c) (hu : Sz m u) (hv : Sz m v) (hm : m ≤ 300) :
    callF prg (k + 4) 49 [.tup [.str "half", .int a, .int b, .int c], .tup [qD u, qD v]] S = some ((Reg.mv u v (.half a b c)).d, S) := by
  rw [cf_s (g := f49) rfl]
  have sa := (sz_i ha).mul hu (Nat.le_refl _)
  have sb := (sz_i hb).mul hv (Nat.le_refl _)
  have ss := sa.add sb (Nat.le_refl _)
  have e1 := ql_times (k := k) (S := S) (sz_i ha) hu
  have e2 := ql_times (k := k) (S := S) (sz_i hb) hv
  have e3 := ql_plus (k := k) (S := S) sa sb
  have e4 := ql_plus (k := k) (S := S) (sz_i hc) ss
  have sw := (sz_i hc).add ss (Nat.le_refl _)
  rw [qD_int] at e1 e2 e4
  simp only [Reg.mv, Reg.d]
  generalize (c : Rat) + ((a : Rat) * u + (b : Rat) * v) = w at e4 sw ⊢
  have m1 := b_mul (szMul_ok (ha.mono (by omega : m ≤ 3000)) (Bd.mono (l := 3000) sw.d (by omega)))
  have m2 := b_mul (szMul_ok (hb.mono (by omega : m ≤ 3000)) (Bd.mono (l := 3000) sw.d (by omega)))
  rw [show qD w = .tup [.int w.num, .int (w.den : Int)] from rfl] at e4
  simp [f49, runF, L2.ixN, List.replicate, kTup, e1, e2, e3, e4, m1, m2]
mutual
theorem q_moved_by {m : Nat} {S : Sto} {u v : Rat} (hu : Sz m u) (hv : Sz m v) (hm : m ≤ 300) : ∀ (r : Reg) (k : Nat), r.ok m → callF prg (k + 5 + r.dp) 29 [r.d, .tup [qD u, qD v]] S = some ((r.mv u v).d, S)
  | .half a b c, k, h => by
    obtain ⟨h1, h2, h3, h4⟩ := h
    show callF prg (k + 5 + 1) _ _ _ = _
    rw [cf_s (g := f29) rfl]
    have e := q_moved_half (k := k + 1) (S := S) h1 h2 h3 hu hv hm
    have pr := reg_pure (Reg.mv u v (.half a b c))
    simp only [Reg.d] at e ⊢
    simp only [Reg.mv] at e pr ⊢
    simp [f29, runF, L2.ixN, List.replicate, e, Reg.d]
  | .disc p q s, k, h => by
    obtain ⟨h1, h2, h3, h4⟩ := h
    show callF prg (k + 5 + 1) _ _ _ = _
    rw [cf_s (g := f29) rfl]
    have e1 := q_plus (k := k + 2) (S := S) h1 hu
    have e2 := q_plus (k := k + 2) (S := S) h2 hv
    simp only [Reg.d, Reg.mv]
    simp [f29, runF, L2.ixN, List.replicate, disc_ne, kTup, e1, e2, atI_m3]
  | .jn w rs, k, h => by
    obtain ⟨h1, h2, h3, h4, h5⟩ := h
    show callF prg (k + 5 + regsDp rs + 1) _ _ _ = _
    rw [cf_s (g := f29) rfl]
    have e := q_moved_bys (S := S) hu hv hm rs k (regsDp rs) (Nat.le_refl _) (.some (false, (Reg.jn w rs).d)) none h5
    have l2 : (regsD rs).length < 100000 := by rw [regsD_len]; omega
    have l3 : (regsD (regsMv u v rs)).length + 1 ≤ 100000 := by rw [regsD_len, (mvs_dp u v rs).2.2.2]; omega
    have pr := regs_pure (regsMv u v rs)
    simp only [Reg.d] at e ⊢
    simp only [Reg.mv, Reg.d]
    simp [f29, runF, L2.ixN, List.replicate, reg_ne1, reg_ne2, slc_1, l2, e, kTup, l3, pr]
theorem q_moved_bys {m : Nat} {S : Sto} {u v : Rat} (hu : Sz m u) (hv : Sz m v) (hm : m ≤ 300) : ∀ (rs : List Reg) (k n : Nat), regsDp rs ≤ n → ∀ (x0 x2 : Slot), regsOk m rs → compL (cmpB prg (callF prg (k + 5 + n)) [2] (.nm 2) [] (.call 29 [.var 2, .var 1]) [x0, some (false, .tup [qD u, qD v]), x2]) (regsD rs) S = some (regsD (regsMv u v rs), S)
  | [], k, n, hn, x0, x2, h => rfl
  | r :: rs, k, n, hn, x0, x2, h => by
    simp only [regsDp] at hn
    have e1 := q_moved_by (S := S) hu hv hm r (k + (n - r.dp)) h.1
    rw [show k + (n - r.dp) + 5 + r.dp = k + 5 + n by omega] at e1
    have e2 := q_moved_bys (S := S) hu hv hm rs k n (by omega) x0 x2 h.2
    exact compL_cons (by simp [wipeR, e1]) e2
end
mutual
theorem ql_moved {m : Nat} {S : Sto} {u v : Rat} (hu : Sz m u) (hv : Sz m v) (hm : m ≤ 300) : ∀ (r : Reg) (k : Nat), r.ok m → callF prg (k + 5 + r.dp) 49 [r.d, .tup [qD u, qD v]] S = some ((r.mv u v).d, S)
  | .half a b c, k, h => by
    obtain ⟨h1, h2, h3, h4⟩ := h
    exact ql_moved_half (k := k + 2) h1 h2 h3 hu hv hm
  | .disc p q s, k, h => by
    obtain ⟨h1, h2, h3, h4⟩ := h
    show callF prg (k + 5 + 1) _ _ _ = _
    rw [cf_s (g := f49) rfl]
    have e1 := ql_plus (k := k + 2) (S := S) h1 hu
    have e2 := ql_plus (k := k + 2) (S := S) h2 hv
    simp only [Reg.d, Reg.mv]
    simp [f49, runF, L2.ixN, List.replicate, disc_ne, kTup, e1, e2]
  | .jn w rs, k, h => by
    obtain ⟨h1, h2, h3, h4, h5⟩ := h
    show callF prg (k + 5 + regsDp rs + 1) _ _ _ = _
    rw [cf_s (g := f49) rfl]
    have e := ql_moveds (S := S) hu hv hm rs k (regsDp rs) (Nat.le_refl _) (.some (false, (Reg.jn w rs).d)) none none h5
    have l2 : (regsD rs).length < 100000 := by rw [regsD_len]; omega
    have ad : binD .Add (.tup [.str (wordS w)]) (.tup (regsD (regsMv u v rs))) = some (.tup (.str (wordS w) :: regsD (regsMv u v rs))) := by
      have : [D.str (wordS w)].length + (regsD (regsMv u v rs)).length ≤ 100000 := by rw [regsD_len, (mvs_dp u v rs).2.2.2]; simp; omega
      show (if _ then _ else _) = _
      rw [if_pos this]
      rfl
    have pr := regs_pure (regsMv u v rs)
    simp only [Reg.d] at e ⊢
    simp only [Reg.mv, Reg.d]
    simp [f49, runF, L2.ixN, List.replicate, reg_ne1, reg_ne2, slc_1, l2, e, kTup, ad, pr]
theorem ql_moveds {m : Nat} {S : Sto} {u v : Rat} (hu : Sz m u) (hv : Sz m v) (hm : m ≤ 300) : ∀ (rs : List Reg) (k n : Nat), regsDp rs ≤ n → ∀ (x0 x2 x3 : Slot), regsOk m rs → compL (cmpB prg (callF prg (k + 5 + n)) [3] (.nm 3) [] (.call 49 [.var 3, .var 1]) [x0, some (false, .tup [qD u, qD v]), x2, x3]) (regsD rs) S = some (regsD (regsMv u v rs), S)
  | [], k, n, hn, x0, x2, x3, h => rfl
  | r :: rs, k, n, hn, x0, x2, x3, h => by
    simp only [regsDp] at hn
    have e1 := ql_moved (S := S) hu hv hm r (k + (n - r.dp)) h.1
    rw [show k + (n - r.dp) + 5 + r.dp = k + 5 + n by omega] at e1
    have e2 := ql_moveds (S := S) hu hv hm rs k n (by omega) x0 x2 x3 h.2
    exact compL_cons (by simp [wipeR, e1]) e2
end
theorem q_moved {k m : Nat} {S : Sto} {r : Reg} {u v : Rat} (hr : r.ok m) (hu : Sz m u) (hv : Sz m v) (hm : m ≤ 300) (hd : r.dp ≤ 8) (hn : r.np ≤ 30) (hs : r.sz < 5000) : callF prg (k + 14) 30 [r.d, .tup [qD u, qD v]] S = some ((r.mv u v).d, S) := by
  rw [cf_s (g := f30) rfl]
  have e1 := q_check_region (k := k + 6) (S := S) hr hd hn hs
  have e2 := q_check_point (k := k + 9) (S := S) hu hv
  have e3 := q_moved_by (S := S) hu hv hm r (k + (8 - r.dp)) hr
  rw [show k + (8 - r.dp) + 5 + r.dp = k + 13 by omega] at e3
  have pr := reg_pure (r.mv u v)
  simp [f30, runF, L2.ixN, List.replicate, e1, e2, e3, pr]
end Pv.K13

set_option Elab.async false
set_option linter.all false
set_option maxRecDepth 100000
set_option maxHeartbeats 4000000
namespace Pv.K13
open PySem PySem.Spec PyProof.Rows L2
/-! what is a patch -/
theorem q_turn {k m : Nat} {S : Sto} {a b c : Pnt} (ha : Sz m a.1 ∧ Sz m a.2) (hb : Sz m b.1 ∧ Sz m b.2) (hc : Sz m c.1 ∧ Sz m c.2) (hm : m ≤ 300 := by omega) : callF prg (k + 4) 22 [ptD a, ptD b, ptD c] S = some (.int (turnQ a b c).num, S) := by
  rw [cf_s (g := f22) rfl]
  have s1 := hb.1.sub ha.1 (Nat.le_refl _)
  have s2 := hc.2.sub ha.2 (Nat.le_refl _)
  have s3 := hb.2.sub ha.2 (Nat.le_refl _)
  have s4 := hc.1.sub ha.1 (Nat.le_refl _)
  have e1 := q_less (k := k) (S := S) hb.1 ha.1
  have e2 := q_less (k := k) (S := S) hc.2 ha.2
  have e3 := q_less (k := k) (S := S) hb.2 ha.2
  have e4 := q_less (k := k) (S := S) hc.1 ha.1
  have e5 := q_times (k := k) (S := S) s1 s2
  have e6 := q_times (k := k) (S := S) s3 s4
  have e7 := q_less (k := k) (S := S) (s1.mul s2 (Nat.le_refl _)) (s3.mul s4 (Nat.le_refl _))
  unfold turnQ
  generalize (b.1 - a.1) * (c.2 - a.2) - (b.2 - a.2) * (c.1 - a.1) = w at e7 ⊢
  rw [show qD w = .tup [.int w.num, .int (w.den : Int)] from rfl] at e7
  simp [f22, runF, L2.ixN, List.replicate, ptD, e1, e2, e3, e4, e5, e6, e7]
theorem q_is_ahead {k m : Nat} {S : Sto} {a b : Pnt} (ha : Sz m a.1 ∧ Sz m a.2) (hb : Sz m b.1 ∧ Sz m b.2) (h : aheadQ a b) (hm : m ≤ 3000 := by omega) : callF prg (k + 2) 23 [ptD a, ptD b] S = some (.bl true, S) := by
  rw [cf_s (g := f23) rfl]
  have e1 := q_is_below (k := k) (S := S) ha.1 hb.1
  have e2 := q_is_below (k := k) (S := S) ha.2 hb.2
  have e3 := eq_q a.1 b.1
  rcases h with h | ⟨h, g⟩
  · simp [f23, runF, L2.ixN, List.replicate, ptD, e1, h]
  · have n : ¬ a.1 < b.1 := by rw [h]; exact Rat.lt_irrefl
    rw [decide_eq_true h] at e3
    rw [decide_eq_false n] at e1
    rw [decide_eq_true g] at e2
    clear h n
    have d1 : deB S (qD a.1) = qD a.1 := rfl
    have d2 : deB S (qD b.1) = qD b.1 := rfl
    simp [f23, runF, L2.ixN, List.replicate, ptD, e1, e2, e3, d1, d2]
theorem q_patch_in {k m : Nat} {S : Sto} {ps : List Pnt} (h : PatchP ps) (hs : ∀ p ∈ ps, Sz m p.1 ∧ Sz m p.2) (hm : m ≤ 300) (i : Nat) (hi : i < ps.length) (z : Int) (hz : z = (i : Int)) (x1 x2 x3 x4 : Slot) :
    ∃ y3 y4 : Slot, bW prg (callF prg (k + 5)) [.set 3 (.cmpr [4] (.nm 4) (.var 0) [.cmp .NotIn (.var 4) (.tup [.idx (.var 0) (.bin .Sub (.var 1) (.cst (.int 1))), .var 2])] (.var 4)), .ite (.not (.bi .all [.cmpr [4] (.nm 4) (.var 3) [] (.cmp .Gt (.call 22 [.idx (.var 0) (.bin .Sub (.var 1) (.cst (.int 1))), .var 2, .var 4]) (.cst (.int 0)))])) [.ret (.cst (.bl false))] []] [some (false, .tup (ps.map ptD)), some (false, .int z), some (false, ptD (at0 ps i)), x3, x4] S = some (.nx [some (false, .tup (ps.map ptD)), some (false, .int z), some (false, ptD (at0 ps i)), y3, y4], S) := by
  obtain ⟨⟨h1, h2⟩, h3, h4, h5⟩ := h
  have pv := atI_at0 hi
  rw [← hz] at pv
  have hp : pvI ps.length i < ps.length := Nat.mod_lt _ (by omega)
  have sb := hs _ (at0_mem hi)
  have sa := hs _ (at0_mem hp)
  have tn := h4 i hi
  generalize at0 ps (pvI ps.length i) = a at *
  generalize at0 ps i = b at *
  have ln : (ps.map ptD).length < 100000 := by rw [List.length_map]; omega
  have c1 : compL (cmpB prg (callF prg (k + 5)) [4] (.nm 4) [.cmp .NotIn (.var 4) (.tup [.idx (.var 0) (.bin .Sub (.var 1) (.cst (.int 1))), .var 2])] (.var 4) [some (false, .tup (ps.map ptD)), some (false, .int z), some (false, ptD b), x3, x4]) (ps.map ptD) S = some ((ps.filter fun o => !(decide (a = o) || decide (b = o))).map ptD, S) :=
    compL_fl ps fun o ho => by
      have ni := notin_pt o a b
      have dv : deB S (ptD o) = ptD o := rfl
      generalize ptD o = v at *
      generalize ps.map ptD = ds at *
      by_cases e : (!(decide (a = o) || decide (b = o))) = true
      · rw [e] at ni
        rw [e]
        simp [wipeR, pv, ni, dv]
      · rw [Bool.not_eq_true] at e
        rw [e] at ni
        rw [e]
        simp [wipeR, pv, ni, dv]
  have c2 : compL (cmpB prg (callF prg (k + 5)) [4] (.nm 4) [] (.cmp .Gt (.call 22 [.idx (.var 0) (.bin .Sub (.var 1) (.cst (.int 1))), .var 2, .var 4]) (.cst (.int 0))) [some (false, .tup (ps.map ptD)), some (false, .int z), some (false, ptD b), some (false, .lst ((ps.filter fun o => !(decide (a = o) || decide (b = o))).map ptD)), x4]) ((ps.filter fun o => !(decide (a = o) || decide (b = o))).map ptD) S = some ((ps.filter fun o => !(decide (a = o) || decide (b = o))).map fun _ => .bl true, S) :=
    compL_fn _ fun o ho => by
      obtain ⟨ho, ne⟩ := List.mem_filter.mp ho
      simp only [Bool.not_or, Bool.and_eq_true, Bool.not_eq_true', decide_eq_false_iff_not] at ne
      have t := tn o ho (fun e => ne.1 e.symm) (fun e => ne.2 e.symm)
      have e := q_turn (k := k + 1) (S := S) sa sb (hs o ho)
      have t' : 0 < (turnQ a b o).num := (num_pos _).mpr t
      generalize (turnQ a b o).num = w at *
      generalize ptD o = v at *
      generalize ((ps.filter fun o => !(decide (a = o) || decide (b = o))).map ptD) = es at *
      generalize ps.map ptD = ds at *
      simp [wipeR, pv, e, t']
  have ln2 : ((ps.filter fun o => !(decide (a = o) || decide (b = o))).map ptD).length < 100000 := by
    have := List.length_filter_le (fun o => !(decide (a = o) || decide (b = o))) ps
    rw [List.length_map]
    omega
  have bo := bools_t (ps.filter fun o => !(decide (a = o) || decide (b = o)))
  have al := all_t (ps.filter fun o => !(decide (a = o) || decide (b = o)))
  generalize ((ps.filter fun o => !(decide (a = o) || decide (b = o))).map fun _ => true) = bb at *
  generalize ((ps.filter fun o => !(decide (a = o) || decide (b = o))).map fun _ => D.bl true) = bs at *
  generalize ((ps.filter fun o => !(decide (a = o) || decide (b = o))).map ptD) = es at *
  generalize ps.map ptD = ds at *
  exact ⟨some (false, .lst es), x4, by simp [runF, L2.ixN, List.replicate, ln, c1, c2, ln2, bo, al]⟩
theorem q_is_patch {k m : Nat} {S : Sto} {ps : List Pnt} (h : PatchP ps) (hs : ∀ p ∈ ps, Sz m p.1 ∧ Sz m p.2) (hm : m ≤ 300 := by omega) : callF prg (k + 6) 24 [.tup (ps.map ptD)] S = some (.bl true, S) := by
  have hh := h
  obtain ⟨⟨h1, h2⟩, h3, h4, h5⟩ := h
  have t := s_is_tuple (k := k + 4) (S := S) (xs := ps.map ptD) (a := 3) (b := 8)
  have ln : (ps.map ptD).length < 100000 := by rw [List.length_map]; omega
  rw [List.length_map, decide_eq_true (show (3 : Int) ≤ (ps.length : Int) by omega), decide_eq_true (show (ps.length : Int) ≤ 8 by omega)] at t
  obtain ⟨p0, rest, rfl⟩ : ∃ p0 rest, ps = p0 :: rest := by
    cases ps with
    | nil => simp at h1
    | cons p ps => exact ⟨p, ps, rfl⟩
  have c1 : compL (cmpB prg (callF prg (k + 5)) [2] (.nm 2) [] (.call 10 [.var 2]) [some (false, .tup ((p0 :: rest).map ptD)), none, none, none, none]) ((p0 :: rest).map ptD) S = some ((p0 :: rest).map fun _ => .bl true, S) :=
    compL_fn _ fun p hp => by
      have e := q_is_point (k := k + 2) (S := S) (hs p hp).1 (hs p hp).2
      generalize (p0 :: rest).map ptD = ds at *
      show cmpB _ _ _ _ _ _ _ (.tup [qD p.1, qD p.2]) _ = _
      simp [wipeR, e]
  have c2 : compL (cmpB prg (callF prg (k + 5)) [2] (.nm 2) [] (.call 23 [.idx (.var 0) (.cst (.int 0)), .var 2]) [some (false, .tup ((p0 :: rest).map ptD)), none, none, none, none]) (rest.map ptD) S = some (rest.map fun _ => .bl true, S) :=
    compL_fn _ fun p hp => by
      have e := q_is_ahead (k := k + 3) (S := S) (hs p0 List.mem_cons_self) (hs p (List.mem_cons_of_mem _ hp)) (h3 p hp)
      rw [List.map_cons]
      generalize rest.map ptD = ds at *
      generalize ptD p = v at *
      generalize ptD p0 = v0 at *
      simp [wipeR, e]
  have dl := dlen_pts (S := S) h5 (by omega)
  obtain ⟨r1, S1, e3, ⟨y1, y2, y3, y4, rfl, rfl⟩⟩ := forL_I (tg := .tp [.nm 1, .nm 2]) (f := bW prg (callF prg (k + 5)) [.set 3 (.cmpr [4] (.nm 4) (.var 0) [.cmp .NotIn (.var 4) (.tup [.idx (.var 0) (.bin .Sub (.var 1) (.cst (.int 1))), .var 2])] (.var 4)), .ite (.not (.bi .all [.cmpr [4] (.nm 4) (.var 3) [] (.cmp .Gt (.call 22 [.idx (.var 0) (.bin .Sub (.var 1) (.cst (.int 1))), .var 2, .var 4]) (.cst (.int 0)))])) [.ret (.cst (.bl false))] []])
    (fun r S' => ∃ y1 y2 y3 y4 : Slot, r = [some (false, .tup ((p0 :: rest).map ptD)), y1, y2, y3, y4] ∧ S' = S) (enuL 0 ((p0 :: rest).map ptD)) [some (false, .tup ((p0 :: rest).map ptD)), none, none, none, none] S ⟨_, _, _, _, rfl, rfl⟩ (fun d hd r S' hr => by
      obtain ⟨y1, y2, y3, y4, rfl, rfl⟩ := hr
      obtain ⟨i, hi, rfl⟩ := enu_mem _ _ d hd
      obtain ⟨z3, z4, e⟩ := q_patch_in (k := k) (S := S') hh hs hm i hi ((0 + i : Nat) : Int) (by omega) y1 y2 y3 y4
      exact ⟨_, _, S', by simp [asg, asgs], e, ⟨_, _, _, _, rfl, rfl⟩⟩)
  have b1 := bools_t (p0 :: rest)
  have a1 := all_t (p0 :: rest)
  have b2 := bools_t rest
  have a2 := all_t rest
  have sl : slcD (.tup ((p0 :: rest).map ptD)) (some 1) none = some (.tup (rest.map ptD)) := slc_1
  have ln2 : (rest.map ptD).length < 100000 := by rw [List.length_map]; simp at h2; omega
  have le : (((p0 :: rest).length : Nat) : Int) = (((p0 :: rest).map ptD).length : Int) := by rw [List.length_map]
  rw [le] at dl
  generalize ((p0 :: rest).map fun _ => true) = bb1 at *
  generalize ((p0 :: rest).map fun _ => D.bl true) = bs1 at *
  generalize (rest.map fun _ => true) = bb2 at *
  generalize (rest.map fun _ => D.bl true) = bs2 at *
  generalize (p0 :: rest).map ptD = ds at *
  generalize rest.map ptD = es at *
  rw [cf_s (g := f24) rfl]
  simp [f24, runF, L2.ixN, List.replicate, t, ln, c1, b1, a1, sl, ln2, c2, b2, a2, e3, dl]
theorem q_check_patch {k m : Nat} {S : Sto} {ps : List Pnt} (h : PatchP ps) (hs : ∀ p ∈ ps, Sz m p.1 ∧ Sz m p.2) (hm : m ≤ 300 := by omega) : callF prg (k + 7) 25 [.tup (ps.map ptD)] S = some (.non, S) := by
  rw [cf_s (g := f25) rfl]
  have e := q_is_patch (k := k) (S := S) h hs
  generalize ps.map ptD = ds at *
  simp [f25, runF, L2.ixN, List.replicate, e]
/-! the half of a side, both ways -/
theorem h_szs {m : Nat} {a b : Pnt} (hm : m ≤ 30) (ha : Sz m a.1 ∧ Sz m a.2) (hb : Sz m b.1 ∧ Sz m b.2) : Sz 70 (hA a b) ∧ Sz 70 (hB a b) ∧ Sz 200 (hC a b) ∧ Bd 400 (hM a b) := by
  have s1 : Sz 70 (hA a b) := hb.2.sub ha.2 (by omega)
  have s2 : Sz 70 (hB a b) := ha.1.sub hb.1 (by omega)
  have s3 : Sz 201 (hC a b) := (s1.mul (ha.1.mono (by omega : m ≤ 30)) (Nat.le_refl _)).add (s2.mul (ha.2.mono (by omega : m ≤ 30)) (Nat.le_refl _)) (by omega)
  have s3' : Sz 200 (hC a b) := by
    have a1 : Sz 61 (hA a b) := hb.2.sub ha.2 (by omega)
    have a2 : Sz 61 (hB a b) := ha.1.sub hb.1 (by omega)
    exact (a1.mul (ha.1.mono (by omega : m ≤ 30)) (Nat.le_refl _)).add (a2.mul (ha.2.mono (by omega : m ≤ 30)) (Nat.le_refl _)) (by omega)
  exact ⟨s1, s2, s3', ((s1.d.mul s2.d).mul s3'.d).mono (by omega)⟩
theorem b_fd {i j : Int} {n : Nat} (hj : 0 < j) (h : Bd n j) (hn : n ≤ 8000) : binD .FloorDiv (.int i) (.int j) = some (.int (i / j)) := by
  rw [b_div (szDiv_ok (by omega) (h.mono hn)), Int.fdiv_eq_ediv_of_nonneg _ (by omega)]
theorem q_half_of {k m : Nat} {S : Sto} {a b : Pnt} (hm : m ≤ 30) (ha : Sz m a.1 ∧ Sz m a.2) (hb : Sz m b.1 ∧ Sz m b.2) (ne : a ≠ b) : callF prg (k + 4) 26 [ptD a, ptD b] S = some ((hR a b).d, S) ∧ callF prg (k + 5) 50 [ptD a, ptD b] S = some ((hR a b).d, S) := by
  obtain ⟨s1, s2, s3, s4⟩ := h_szs hm ha hb
  have e1 : callF prg (k + 3) 7 [qD b.2, qD a.2] S = some (qD (hA a b), S) := q_less (k := k) (S := S) hb.2 ha.2
  have e2 : callF prg (k + 3) 7 [qD a.1, qD b.1] S = some (qD (hB a b), S) := q_less (k := k) (S := S) ha.1 hb.1
  have e3 := q_times (k := k) (S := S) s1 ha.1
  have e4 := q_times (k := k) (S := S) s2 ha.2
  have e5 : callF prg (k + 3) 6 [qD (hA a b * a.1), qD (hB a b * a.2)] S = some (qD (hC a b), S) := q_plus (k := k) (S := S) (s1.mul ha.1 (Nat.le_refl _)) (s2.mul ha.2 (Nat.le_refl _))
  have l1 : callF prg (k + 4) 42 [qD b.2, qD a.2] S = some (qD (hA a b), S) := ql_minus (k := k) (S := S) hb.2 ha.2
  have l2 : callF prg (k + 4) 42 [qD b.1, qD a.1] S = some (.tup [.int (-(hB a b).num), .int ((hB a b).den : Int)], S) := by
    rw [← qD_neg, show -hB a b = b.1 - a.1 by unfold hB; grind]
    exact ql_minus (k := k) (S := S) hb.1 ha.1
  have l3 := ql_times (k := k + 1) (S := S) s1 ha.1
  have l4 := ql_times (k := k + 1) (S := S) s2 ha.2
  have l5 : callF prg (k + 4) 40 [qD (hA a b * a.1), qD (hB a b * a.2)] S = some (qD (hC a b), S) := ql_plus (k := k + 1) (S := S) (s1.mul ha.1 (Nat.le_refl _)) (s2.mul ha.2 (Nat.le_refl _))
  have g := hG_pos ne
  have m0 := hM_pos a b
  have r1 := b_mul (szMul_ok (s1.d.mono (by omega : 70 ≤ 3000)) (s2.d.mono (by omega : 70 ≤ 3000)))
  have r2 : binD .Mult (.int ((hA a b).den * (hB a b).den)) (.int (hC a b).den) = some (.int (hM a b)) := b_mul (szMul_ok ((s1.d.mul s2.d).mono (by omega : 70 + 70 ≤ 3000)) (s3.d.mono (by omega : 200 ≤ 3000)))
  have dM : ∀ d : Int, Bd 400 (hM a b / d) := fun d => s4.le (Int.natAbs_ediv_le_natAbs _ _)
  have f1 := b_fd (i := hM a b) (den_pos' (hA a b)) s1.d (by omega)
  have f2 := b_fd (i := hM a b) (den_pos' (hB a b)) s2.d (by omega)
  have f3 := b_fd (i := hM a b) (den_pos' (hC a b)) s3.d (by omega)
  have t1 : binD .Mult (.int (hA a b).num) (.int (hM a b / (hA a b).den)) = some (.int (h0 a b)) := b_mul (szMul_ok (s1.n.mono (by omega : 70 ≤ 3000)) ((dM (hA a b).den).mono (by omega : 400 ≤ 3000)))
  have t2 : binD .Mult (.int (hB a b).num) (.int (hM a b / (hB a b).den)) = some (.int (h1 a b)) := b_mul (szMul_ok (s2.n.mono (by omega : 70 ≤ 3000)) ((dM (hB a b).den).mono (by omega : 400 ≤ 3000)))
  have t3 : binD .Mult (.int (hC a b).num) (.int (hM a b / (hC a b).den)) = some (.int (h2 a b)) := b_mul (szMul_ok (s3.n.mono (by omega : 200 ≤ 3000)) ((dM (hC a b).den).mono (by omega : 400 ≤ 3000)))
  have u0 : Bd 700 (h0 a b) := (s1.n.mul (dM _)).mono (by omega)
  have u1 : Bd 700 (h1 a b) := (s2.n.mul (dM _)).mono (by omega)
  have u2 : Bd 700 (h2 a b) := (s3.n.mul (dM _)).mono (by omega)
  have c1 := s_common (k := k + 2) (S := S) (a := h0 a b) (u1.mono (by omega : 700 ≤ 1000000))
  have c2 : callF prg (k + 3) 2 [.int (Int.gcd (h0 a b) (h1 a b) : Int), .int (h2 a b)] S = some (.int (hG a b), S) := s_common (k := k + 2) (S := S) (a := (Int.gcd (h0 a b) (h1 a b) : Int)) (u2.mono (by omega : 700 ≤ 1000000))
  have w1 := l_common (k := k + 3) (S := S) (a := h0 a b) (u1.mono (by omega : 700 ≤ 1000000))
  have w2 : callF prg (k + 4) 35 [.int (Int.gcd (h0 a b) (h1 a b) : Int), .int (h2 a b)] S = some (.int (hG a b), S) := l_common (k := k + 3) (S := S) (a := (Int.gcd (h0 a b) (h1 a b) : Int)) (u2.mono (by omega : 700 ≤ 1000000))
  have bg : Bd 700 (hG a b) := hG_bd ne u0 u1
  have v0 := b_fd (i := h0 a b) g bg (by omega)
  have v1 := b_fd (i := h1 a b) g bg (by omega)
  have v2 := b_fd (i := h2 a b) g bg (by omega)
  have qa : qD (hA a b) = .tup [.int (hA a b).num, .int ((hA a b).den : Int)] := rfl
  have qb : qD (hB a b) = .tup [.int (hB a b).num, .int ((hB a b).den : Int)] := rfl
  have qc : qD (hC a b) = .tup [.int (hC a b).num, .int ((hC a b).den : Int)] := rfl
  have da : ∀ q : Rat, deB S (qD q) = qD q := fun q => rfl
  generalize hA a b * a.1 = z1 at *
  generalize hB a b * a.2 = z2 at *
  rw [qa] at e1 e3 l1 l3
  rw [qb] at e2 e4 l4
  rw [qc] at e5 l5
  unfold hR Reg.d ptD
  generalize h0 a b / hG a b = o0 at *
  generalize h1 a b / hG a b = o1 at *
  generalize h2 a b / hG a b = o2 at *
  generalize (Int.gcd (h0 a b) (h1 a b) : Int) = gg at *
  generalize hG a b = G at *
  generalize hM a b / (hA a b).den = d1 at *
  generalize hM a b / (hB a b).den = d2 at *
  generalize hM a b / (hC a b).den = d3 at *
  generalize h0 a b = i0 at *
  generalize h1 a b = i1 at *
  generalize h2 a b = i2 at *
  generalize hM a b = M at *
  generalize (hA a b).num = an at *
  generalize (hB a b).num = bn at *
  generalize (hC a b).num = cn at *
  generalize ((hA a b).den : Int) = ad at *
  generalize ((hB a b).den : Int) = bd at *
  generalize ((hC a b).den : Int) = cd at *
  generalize qD a.1 = A1 at *
  generalize qD a.2 = A2 at *
  generalize qD b.1 = B1 at *
  generalize qD b.2 = B2 at *
  generalize qD z1 = Z1 at *
  generalize qD z2 = Z2 at *
  constructor
  · rw [cf_s (g := f26) rfl]
    simp [f26, runF, L2.ixN, List.replicate, asgs, setAll, kTup, wipeR, e1, e2, e3, e4, e5, r1, r2, f1, f2, f3, t1, t2, t3, c1, c2, v0, v1, v2, atI_m3]
  · rw [cf_s (g := f50) rfl]
    simp [f50, runF, L2.ixN, List.replicate, asgs, setAll, kTup, wipeR, l1, l2, l3, l4, l5, r1, r2, f1, f2, f3, t1, t2, t3, w1, w2, v0, v1, v2]
end Pv.K13

set_option Elab.async false
set_option linter.all false
set_option maxRecDepth 100000
set_option maxHeartbeats 4000000
namespace Pv.K13
open PySem PySem.Spec PyProof.Rows L2
/-! the region of a patch -/
theorem cut_t1 (ds : List D) : cutD ds none (some 1) = ds.take 1 := by
  unfold cutD
  rw [show ((1 : Int)) = ((1 : Nat) : Int) from rfl, HT.sIx_nat, HT.sIx_none, List.drop_zero, Nat.sub_zero]
  cases ds with
  | nil => rfl
  | cons d ds => rw [List.length_cons, show min 1 (ds.length + 1) = 1 by omega]
theorem slc_t1 (ds : List D) : slcD (.tup ds) none (some 1) = some (.tup (ds.take 1)) := by
  rw [← cut_t1]
  rfl
theorem slc_d1 {ds : List D} : slcD (.tup ds) (some 1) none = some (.tup (ds.drop 1)) := by
  cases ds with
  | nil => rfl
  | cons d ds => exact slc_1
theorem q_region_of {k m : Nat} {S : Sto} {ps : List Pnt} (h : PatchP ps) (hs : ∀ p ∈ ps, Sz m p.1 ∧ Sz m p.2) (hm : m ≤ 30 := by omega) : callF prg (k + 8) 27 [.tup (ps.map ptD)] S = some ((rgP ps).d, S) := by
  have e0 := q_check_patch (k := k) (S := S) h hs
  have pr := reg_pure (rgP ps)
  rw [rgP_d] at pr ⊢
  have h1 := h.1.1
  have h2 := h.1.2
  have ne : ∀ s ∈ sides ps, s.1 ≠ s.2 := fun s hx => sides_ne h.2.2.2 (by omega) hx
  have c : compL (cmpB prg (callF prg (k + 7)) [1, 2] (.tp [.nm 1, .nm 2]) [] (.call 26 [.var 1, .var 2]) [some (false, .tup (ps.map ptD)), none, none]) (zipL (ps.map ptD) ((ps.map ptD).drop 1 ++ (ps.map ptD).take 1)) S = some ((sides ps).map fun s => (hR s.1 s.2).d, S) := by
    rw [← List.map_drop, ← List.map_take, ← List.map_append, zip_pt]
    refine compL_fn (sides ps) fun s hx => ?_
    obtain ⟨m1, m2⟩ := sides_mem hx
    have e := (q_half_of (k := k + 3) (S := S) hm (hs _ m1) (hs _ m2) (ne s hx)).1
    generalize ptD s.1 = v1 at *
    generalize ptD s.2 = v2 at *
    generalize ps.map ptD = ds at *
    simp [wipeR, asgs, e]
  have lz : (zipL (ps.map ptD) ((ps.map ptD).drop 1 ++ (ps.map ptD).take 1)).length < 100000 := by
    rw [← List.map_drop, ← List.map_take, ← List.map_append, zip_pt, List.length_map, show ps.zip (ps.drop 1 ++ ps.take 1) = sides ps from rfl, sides_len ps (by omega)]
    omega
  have lo : ((sides ps).map fun s => (hR s.1 s.2).d).length + 1 ≤ 100000 := by
    rw [List.length_map, sides_len ps (by omega)]
    omega
  have ld : (ps.map ptD).length ≤ 8 := by rw [List.length_map]; exact h2
  have l1 : 1 ≤ (ps.map ptD).length := by rw [List.length_map]; omega
  generalize ((sides ps).map fun s => (hR s.1 s.2).d) = hs' at *
  generalize ps.map ptD = ds at *
  obtain ⟨d, rest, rfl⟩ : ∃ d rest, ds = d :: rest := by
    cases ds with
    | nil => simp at l1
    | cons d rest => exact ⟨d, rest, rfl⟩
  have tk : (d :: rest).drop 1 ++ (d :: rest).take 1 = rest ++ [d] := by simp
  rw [tk] at c lz
  have sl : slcD (.tup (d :: rest)) (some 1) none = some (.tup rest) := slc_1
  have lr : rest.length + 1 ≤ 100000 := by simp at ld; omega
  generalize hz : zipL (d :: rest) (rest ++ [d]) = zz at *
  generalize hd : d :: rest = ds at *
  have ix' : L2.atI ds 0 = some d := by rw [← hd]; simp [L2.atI, L2.ixN]
  rw [cf_s (g := f27) rfl]
  have pr2 : pures hs' = true := by
    have := pr
    simpa [pures_cons] using this
  simp [f27, runF, L2.ixN, List.replicate, kTup, kLst, e0, sl, lr, hz, ix', lz, c, lo, pr2]
theorem l_sided {k m : Nat} {S : Sto} {a b c : Pnt} (ha : Sz m a.1 ∧ Sz m a.2) (hb : Sz m b.1 ∧ Sz m b.2) (hc : Sz m c.1 ∧ Sz m c.2) (hm : m ≤ 300 := by omega) : callF prg (k + 5) 46 [ptD a, ptD b, ptD c] S = some (.int (turnQ a b c).num, S) := by
  rw [cf_s (g := f46) rfl]
  have s1 := hb.1.sub ha.1 (Nat.le_refl _)
  have s2 := hc.2.sub ha.2 (Nat.le_refl _)
  have s3 := hb.2.sub ha.2 (Nat.le_refl _)
  have s4 := hc.1.sub ha.1 (Nat.le_refl _)
  have e1 := ql_minus (k := k) (S := S) hb.1 ha.1
  have e2 := ql_minus (k := k) (S := S) hc.2 ha.2
  have e3 := ql_minus (k := k) (S := S) hb.2 ha.2
  have e4 := ql_minus (k := k) (S := S) hc.1 ha.1
  have e5 := ql_times (k := k + 1) (S := S) s1 s2
  have e6 := ql_times (k := k + 1) (S := S) s3 s4
  have e7 := ql_minus (k := k) (S := S) (s1.mul s2 (Nat.le_refl _)) (s3.mul s4 (Nat.le_refl _))
  unfold turnQ
  generalize (b.1 - a.1) * (c.2 - a.2) - (b.2 - a.2) * (c.1 - a.1) = w at e7 ⊢
  rw [show qD w = .tup [.int w.num, .int (w.den : Int)] from rfl] at e7
  simp [f46, runF, L2.ixN, List.replicate, setAll, ptD, e1, e2, e3, e4, e5, e6, e7]
theorem l_is_in_patch {k m : Nat} {S : Sto} {ps : List Pnt} {p : Pnt} (h : PatchP ps) (hs : ∀ p ∈ ps, Sz m p.1 ∧ Sz m p.2) (hp : Sz m p.1 ∧ Sz m p.2) (hm : m ≤ 300 := by omega) : callF prg (k + 6) 48 [.tup (ps.map ptD), ptD p] S = some (.bl ((rgP ps).mem p.1 p.2), S) := by
  have h1 := h.1.1
  have h2 := h.1.2
  rw [rgP_mem h]
  have c : compL (cmpB prg (callF prg (k + 5)) [2, 3] (.tp [.nm 2, .nm 3]) [] (.cmp .GtE (.call 46 [.var 2, .var 3, .var 1]) (.cst (.int 0))) [some (false, .tup (ps.map ptD)), some (false, ptD p), none, none]) (zipL (ps.map ptD) ((ps.map ptD).drop 1 ++ (ps.map ptD).take 1)) S = some (((sides ps).map fun s => decide (0 ≤ turnQ s.1 s.2 (p.1, p.2))).map D.bl, S) := by
    rw [← List.map_drop, ← List.map_take, ← List.map_append, zip_pt, List.map_map]
    refine compL_fn (sides ps) fun s hx => ?_
    obtain ⟨m1, m2⟩ := sides_mem hx
    have e := l_sided (k := k) (S := S) (hs _ m1) (hs _ m2) hp
    have g : decide (0 ≤ (turnQ s.1 s.2 p).num) = decide (0 ≤ turnQ s.1 s.2 p) := by rw [decide_eq_decide, num_ge]
    show _ = some (some (D.bl (decide (0 ≤ turnQ s.1 s.2 p))), S)
    rw [← g]
    generalize (turnQ s.1 s.2 p).num = w at *
    generalize ptD s.1 = v1 at *
    generalize ptD s.2 = v2 at *
    generalize ptD p = v3 at *
    generalize ps.map ptD = ds at *
    simp [wipeR, asgs, e]
  have lz : (zipL (ps.map ptD) ((ps.map ptD).drop 1 ++ (ps.map ptD).take 1)).length < 100000 := by
    rw [← List.map_drop, ← List.map_take, ← List.map_append, zip_pt, List.length_map, show ps.zip (ps.drop 1 ++ ps.take 1) = sides ps from rfl, sides_len ps (by omega)]
    omega
  have bm := bools_map ((sides ps).map fun s => decide (0 ≤ turnQ s.1 s.2 (p.1, p.2)))
  generalize ((sides ps).map fun s => decide (0 ≤ turnQ s.1 s.2 (p.1, p.2))) = bs at *
  have ld : (ps.map ptD).length ≤ 8 := by rw [List.length_map]; exact h2
  generalize ps.map ptD = ds at *
  have sl := slc_d1 (ds := ds)
  have s0 := slc_t1 ds
  have ad : binD .Add (.tup (ds.drop 1)) (.tup (ds.take 1)) = some (.tup (ds.drop 1 ++ ds.take 1)) := by
    have : (ds.drop 1).length + (ds.take 1).length ≤ 100000 := by rw [List.length_drop, List.length_take]; omega
    show (if _ then _ else _) = _
    rw [if_pos this]
  generalize bs.map D.bl = bd at *
  generalize ds.drop 1 = d1 at *
  generalize ds.take 1 = d2 at *
  generalize hz : d1 ++ d2 = dd at *
  generalize ptD p = v at *
  rw [cf_s (g := f48) rfl]
  simp [f48, runF, L2.ixN, List.replicate, sl, s0, ad, lz, c, bm]
end Pv.K13

set_option Elab.async false
set_option linter.all false
set_option maxRecDepth 100000
set_option maxHeartbeats 4000000
namespace Pv.K13
open PySem PySem.Spec PyProof.Rows L2
/-! drawn patches and points about them -/
def shD (l : List (Int × Int)) : D := .tup (l.map fun p => .tup [.int p.1, .int p.2])
theorem shapes_bd : ∀ l ∈ shapes, l.length ≤ 8 ∧ ∀ p ∈ l, p.1.natAbs ≤ 5 ∧ p.2.natAbs ≤ 5 := by decide +kernel
theorem l_drawn_corners {k m : Nat} {S : Sto} {n : Nat} {s x y : Rat} (hs : Sz 3 s) (hx : Sz 6 x) (hy : Sz 6 y) {sh : D} : ∀ (l : List (Int × Int)) (acc : List D) (x4 x5 : Slot), (∀ p ∈ l, p.1.natAbs ≤ 5 ∧ p.2.natAbs ≤ 5) → acc.length + l.length ≤ 100 →
    ∃ y4 y5 : Slot, forL (.tp [.nm 4, .nm 5]) (bW prg (callF prg (k + 3)) [.app 2 (.tup [.call 40 [.call 41 [.tup [.var 4, .cst (.int 1)], .var 3], .var 6], .call 40 [.call 41 [.tup [.var 5, .cst (.int 1)], .var 3], .var 7]])]) (l.map fun p => .tup [.int p.1, .int p.2]) [some (false, .ref n), some (false, sh), some (true, .lst acc), some (false, qD s), x4, x5, some (false, qD x), some (false, qD y)] S = some (.nx [some (false, .ref n), some (false, sh), some (true, .lst (acc ++ (shp l).map fun p => ptD (trQ s x y p))), some (false, qD s), y4, y5, some (false, qD x), some (false, qD y)], S)
  | [], acc, x4, x5, _, _ => ⟨x4, x5, by simp [shp]⟩
  | p :: l, acc, x4, x5, h, hl => by
    obtain ⟨b1, b2⟩ := h p List.mem_cons_self
    simp only [List.length_cons] at hl
    have s1 : Sz 4 ((p.1 : Int) : Rat) := Sz.int (bd_of 5 b1) (by omega)
    have s2 : Sz 4 ((p.2 : Int) : Rat) := Sz.int (bd_of 5 b2) (by omega)
    have e1 := ql_times (k := k) (S := S) s1 hs
    have e2 := ql_times (k := k) (S := S) s2 hs
    have e3 := ql_plus (k := k) (S := S) (s1.mul hs (Nat.le_refl _)) hx
    have e4 := ql_plus (k := k) (S := S) (s2.mul hs (Nat.le_refl _)) hy
    rw [qD_int] at e1 e2
    have al : acc.length < 100000 := by omega
    obtain ⟨y4, y5, e⟩ := l_drawn_corners (k := k) (m := m) (S := S) (n := n) hs hx hy (sh := sh) l (acc ++ [ptD (trQ s x y (p.1, p.2))]) (some (false, .int p.1)) (some (false, .int p.2)) (fun q hq => h q (List.mem_cons_of_mem _ hq)) (by rw [List.length_append]; simp; omega)
    refine ⟨y4, y5, ?_⟩
    have hc : (shp (p :: l)).map (fun p => ptD (trQ s x y p)) = ptD (trQ s x y (p.1, p.2)) :: (shp l).map fun p => ptD (trQ s x y p) := rfl
    rw [hc, List.map_cons, forL_c]
    rw [List.append_assoc] at e
    have pt : ptD (trQ s x y (p.1, p.2)) = .tup [qD ((p.1 : Rat) * s + x), qD ((p.2 : Rat) * s + y)] := rfl
    generalize ((shp l).map fun p => ptD (trQ s x y p)) = tl at *
    generalize (l.map fun p => D.tup [.int p.1, .int p.2]) = ll at *
    rw [pt] at e ⊢
    generalize (p.1 : Rat) * s = z1 at *
    generalize (p.2 : Rat) * s = z2 at *
    have pz : ∀ a b : Rat, (D.tup [qD a, qD b]).pure = true := fun a b => rfl
    simp [runF, L2.ixN, List.replicate, asgs, kTup, e1, e2, e3, e4, al, pz]
    exact e
theorem l_drawn_patch {k n c : Nat} {S : Sto} (hp : PotOk S n c) (hc : c ≤ 70000) : ∃ ps S', callF prg (k + 5) 47 [.ref n] S = some (.tup (ps.map ptD), S') ∧ PatchP ps ∧ (∀ p ∈ ps, Sz 14 p.1 ∧ Sz 14 p.2) ∧ PotOk S' n (c + 6) ∧ S'.length = S.length := by
  obtain ⟨sq, S1, e1, m1, p1, l1⟩ := l_of (k := k + 2) (xs := [.tup [.int 1, .int 1], .tup [.int 1, .int 2], .tup [.int 2, .int 3], .tup [.int 3, .int 1]]) (by decide) (by decide) (by decide) hp (by omega)
  obtain ⟨x, y, S2, e2, sx, sy, p2, l2⟩ := l_drawn_point (k := k) (most := 4) (by decide) (by decide) p1 (by omega)
  have hsh : ∀ d ∈ shapes.map shD, d.pure = true := by decide +kernel
  obtain ⟨sh, S3, e3, m3, p3, l3⟩ := l_of (k := k + 2) (xs := shapes.map shD) (by decide) (by decide) hsh p2 (by omega)
  have hs : ∃ s : Rat, sq = qD s ∧ 0 < s ∧ Sz 3 s := by
    simp only [List.mem_cons, List.not_mem_nil, or_false] at m1
    rcases m1 with rfl | rfl | rfl | rfl
    · exact ⟨1, rfl, by decide, ⟨by unfold Bd; decide, by unfold Bd; decide⟩⟩
    · exact ⟨mkRat 1 2, rfl, by decide, ⟨by unfold Bd; decide, by unfold Bd; decide⟩⟩
    · exact ⟨mkRat 2 3, rfl, by decide, ⟨by unfold Bd; decide, by unfold Bd; decide⟩⟩
    · exact ⟨3, rfl, by decide, ⟨by unfold Bd; decide, by unfold Bd; decide⟩⟩
  obtain ⟨s, rfl, s0, ss⟩ := hs
  obtain ⟨l, hl, rfl⟩ := List.mem_map.mp m3
  obtain ⟨len, bds⟩ := shapes_bd l hl
  have pk : PatchP ((shp l).map (trQ s x y)) := tr_patch s0 (shapes_ok l hl)
  have lN : ((shp l).map (trQ s x y)).length ≤ 8 := by rw [List.length_map, shp, List.length_map]; exact len
  obtain ⟨y4, y5, e4⟩ := l_drawn_corners (k := k + 1) (m := 0) (S := S3) (n := n) ss sx sy (sh := .lst (shapes.map shD)) l [] none none bds (by simp; omega)
  have mm : ((shp l).map fun p => ptD (trQ s x y p)) = ((shp l).map (trQ s x y)).map ptD := by rw [List.map_map]; rfl
  rw [mm, List.nil_append] at e4
  have hl3 : S3.length = S.length := by omega
  refine ⟨(shp l).map (trQ s x y), S3, ?_, pk, fun p hp => ?_, p3.mono (by omega), hl3⟩
  · have pp : pures (((shp l).map (trQ s x y)).map ptD) = true := by
      generalize (shp l).map (trQ s x y) = ps
      induction ps with
      | nil => rfl
      | cons p ps ih => rw [List.map_cons, pures_cons, ih]; rfl
    have lc : (l.map fun p => D.tup [.int p.1, .int p.2]).length < 100000 := by rw [List.length_map]; omega
    rw [show shD l = .tup (l.map fun p => D.tup [.int p.1, .int p.2]) from rfl] at e3
    generalize (l.map fun p => D.tup [.int p.1, .int p.2]) = ll at *
    have lP : (((shp l).map (trQ s x y)).map ptD).length < 100000 := by rw [List.length_map]; omega
    generalize ((shp l).map (trQ s x y)).map ptD = P at *
    simp only [shapes, shD, List.map_cons, List.map_nil] at e3 e4
    rw [cf_s (g := f47) rfl]
    simp [f47, runF, L2.ixN, List.replicate, asgs, kTup, kLst, frzR, okOwn, e1, e2, e3, e4, pp, lc, lP, tkl hl3]
  · obtain ⟨p', hp', rfl⟩ := List.mem_map.mp hp
    obtain ⟨q, hq, rfl⟩ := List.mem_map.mp hp'
    obtain ⟨b1, b2⟩ := bds q hq
    have s1 : Sz 4 ((q.1 : Int) : Rat) := Sz.int (bd_of 5 b1) (by omega)
    have s2 : Sz 4 ((q.2 : Int) : Rat) := Sz.int (bd_of 5 b2) (by omega)
    exact ⟨(s1.mul ss (Nat.le_refl _)).add sx (by omega), (s2.mul ss (Nat.le_refl _)).add sy (by omega)⟩
theorem l_patch_points {k n c : Nat} {S : Sto} {ps : List Pnt} (h1 : 3 ≤ ps.length) (h2 : ps.length ≤ 8) (hs : ∀ p ∈ ps, Sz 14 p.1 ∧ Sz 14 p.2) (hp : PotOk S n c) (hc : c ≤ 70000) :
    ∃ (qs : List Pnt) (S' : Sto), callF prg (k + 5) 51 [.ref n, .tup (ps.map ptD)] S = some (.lst (qs.map ptD), S') ∧ qs.length = 3 ∧ (∀ p ∈ qs, Sz 60 p.1 ∧ Sz 60 p.2) ∧ PotOk S' n (c + 7) ∧ S'.length = S.length := by
  have pr : ∀ d ∈ ps.map ptD, d.pure = true := fun d hd => by
    obtain ⟨p, _, rfl⟩ := List.mem_map.mp hd
    rfl
  obtain ⟨d1, S1, e1, m1, p1, l1⟩ := l_of_t (k := k + 2) (xs := ps.map ptD) (by rw [List.length_map]; omega) (by rw [List.length_map]; omega) pr hp (by omega)
  obtain ⟨d2, S2, e2, m2, p2, l2⟩ := l_of_t (k := k + 2) (xs := ps.map ptD) (by rw [List.length_map]; omega) (by rw [List.length_map]; omega) pr p1 (by omega)
  obtain ⟨a, ha, rfl⟩ := List.mem_map.mp m1
  obtain ⟨b, hb, rfl⟩ := List.mem_map.mp m2
  obtain ⟨sq, S3, e3, m3, p3, l3⟩ := l_of (k := k + 2) (xs := [.tup [.int 0, .int 1], .tup [.int 1, .int 2], .tup [.int 1, .int 3], .tup [.int 1, .int 1], .tup [.int 3, .int 2], .tup [.int (-1), .int 5]]) (by decide) (by decide) (by decide) p2 (by omega)
  obtain ⟨x, y, S4, e4, sx, sy, p4, l4⟩ := l_drawn_point (k := k) (most := 5) (by decide) (by decide) p3 (by omega)
  have hq : ∃ s : Rat, sq = qD s ∧ Sz 3 s := by
    simp only [List.mem_cons, List.not_mem_nil, or_false] at m3
    rcases m3 with rfl | rfl | rfl | rfl | rfl | rfl
    · exact ⟨0, rfl, ⟨by unfold Bd; decide, by unfold Bd; decide⟩⟩
    · exact ⟨mkRat 1 2, rfl, ⟨by unfold Bd; decide, by unfold Bd; decide⟩⟩
    · exact ⟨mkRat 1 3, rfl, ⟨by unfold Bd; decide, by unfold Bd; decide⟩⟩
    · exact ⟨1, rfl, ⟨by unfold Bd; decide, by unfold Bd; decide⟩⟩
    · exact ⟨mkRat 3 2, rfl, ⟨by unfold Bd; decide, by unfold Bd; decide⟩⟩
    · exact ⟨mkRat (-1) 5, rfl, ⟨by unfold Bd; decide, by unfold Bd; decide⟩⟩
  obtain ⟨s, rfl, ss⟩ := hq
  obtain ⟨a1, a2⟩ := hs a ha
  obtain ⟨b1, b2⟩ := hs b hb
  have d1 := b1.sub a1 (Nat.le_refl _)
  have d2 := b2.sub a2 (Nat.le_refl _)
  have t1 := ss.mul d1 (Nat.le_refl _)
  have t2 := ss.mul d2 (Nat.le_refl _)
  have f1 := ql_minus (k := k) (S := S3) b1 a1
  have f2 := ql_minus (k := k) (S := S3) b2 a2
  have f3 := ql_times (k := k + 1) (S := S3) ss d1
  have f4 := ql_times (k := k + 1) (S := S3) ss d2
  have f5 := ql_plus (k := k + 1) (S := S3) a1 t1
  have f6 := ql_plus (k := k + 1) (S := S3) a2 t2
  have hl4 : S4.length = S.length := by omega
  refine ⟨[a, (a.1 + s * (b.1 - a.1), a.2 + s * (b.2 - a.2)), (x, y)], S4, ?_, rfl, fun p hp => ?_, p4.mono (by omega), hl4⟩
  · generalize ps.map ptD = ds at *
    rw [cf_s (g := f51) rfl]
    simp only [ptD] at e1 e2
    simp [f51, runF, L2.ixN, List.replicate, asgs, setAll, kTup, kLst, zipL, wipeR, ptD, e1, e2, e3, e4, f1, f2, f3, f4, f5, f6, tkl hl4]
  · simp only [List.mem_cons, List.not_mem_nil, or_false] at hp
    rcases hp with rfl | rfl | rfl
    · exact ⟨a1.mono (by omega), a2.mono (by omega)⟩
    · exact ⟨a1.add t1 (by omega), a2.add t2 (by omega)⟩
    · exact ⟨sx.mono (by omega), sy.mono (by omega)⟩
end Pv.K13

set_option Elab.async false
set_option linter.all false
set_option maxRecDepth 100000
set_option maxHeartbeats 4000000
namespace Pv.K13
open PySem PySem.Spec PyProof.Rows L2
theorem l_pot {k : Nat} {S : Sto} {ns : List Int} {p : Int} (hp0 : 0 ≤ p) (hp1 : p ≤ 100) : ∃ S', callF prg (k + 1) 31 [scr ns, .int p] S = some (.ref S.length, S') ∧ PotOk S' S.length 0 := by
  have fm : ∀ (a : Int) {b : Int}, 0 < b → binD .Mod (.int a) (.int b) = some (.int (a % b)) := fun a b hb => by rw [b_mod (by omega), Int.fmod_eq_emod_of_nonneg _ (by omega)]
  obtain ⟨cell, hcell⟩ : ∃ cell : Int, evE prg (callF prg k) (.ite (.cmp .Lt (.var 1) (.bi .len [.var 0])) (.idx (.var 0) (.var 1)) (.bin .Add (.bin .Add (.bin .Mod (.bi .int [.bi .sum [.slc (.var 0) none (some (.cst (.int 1)))]]) (.cst (.int 1000003))) (.bin .Mult (.cst (.int 1601)) (.var 1))) (.cst (.int 1093)))) [some (false, scr ns), some (false, .int p), none, none, none] S = some (.int cell, S) := by
    by_cases h : p < ns.length
    · obtain ⟨d, hd, e⟩ := atI_in (xs := ns.map D.int) hp0 (by simpa using h)
      obtain ⟨z, _, rfl⟩ := List.mem_map.mp hd
      exact ⟨z, by simp [scr, h, e]⟩
    · have hs : ∃ z, biD .sum [.lst (cutD (ns.map D.int) none (some 1))] = some (.int z) := by
        have key : ∀ l : List Int, ∃ z, biD .sum [.lst (l.map D.int)] = some (.int z) := fun l => by
          have : intsOf (l.map D.int) = some l := by
            induction l with
            | nil => rfl
            | cons a l ih => show (intsOf (l.map D.int)).map _ = _; rw [ih]; rfl
          exact ⟨l.sum, by show (intsOf (l.map D.int)).map _ = _; rw [this]; rfl⟩
        unfold cutD
        rw [← List.map_drop, ← List.map_take]
        exact key _
      obtain ⟨z, hz⟩ := hs
      have es : slcD (.lst (ns.map D.int)) none (some 1) = some (.lst (cutD (ns.map D.int) none (some 1))) := rfl
      have hmul := b_mul (szMul_ok (show Bd 20 1601 by unfold Bd; decide) (bd_of (k := 20) 100 (show p.natAbs ≤ 100 by omega)))
      exact ⟨z % 1000003 + 1601 * p + 1093, by simp [scr, h, es, hz, hmul, fm z (b := 1000003) (by decide)]⟩
  have pw1 : binD .Pow (.int 10) (.int 60) = some (.int (10 ^ 60)) := b_pow (by decide)
  have pw2 : binD .Pow (.int (10 ^ 60)) (.int 5) = some (.int ((10 ^ 60) ^ 5)) := b_pow (by decide)
  have pw3 : binD .Pow (.int 10) (.int 18) = some (.int (10 ^ 18)) := b_pow (by decide)
  have q0 : (0 : Int) < (10 ^ 60) ^ 5 := by decide
  have bq : Bd 1000 ((10 ^ 60) ^ 5 : Int) := by unfold Bd; decide
  have m0 := Int.emod_nonneg (cell.natAbs : Int) (b := (10 ^ 60) ^ 5) (by omega)
  have m1 := Int.emod_lt_of_pos (cell.natAbs : Int) q0
  have bo : Bd 1000 ((cell.natAbs : Int) % (10 ^ 60) ^ 5) := bq.le (by omega)
  obtain ⟨own, ho⟩ : ∃ own : Int, own = (cell.natAbs : Int) % (10 ^ 60) ^ 5 := ⟨_, rfl⟩
  have md := fm (cell.natAbs : Int) q0
  rw [← ho] at md bo
  generalize ((10 : Int) ^ 60) ^ 5 = Q at *
  generalize ((10 : Int) ^ 60) = Q1 at *
  generalize ((10 : Int) ^ 18) = Q2 at *
  have s0 := Int.emod_nonneg cell (b := 2305843009213693951) (by decide)
  have s1 := Int.emod_lt_of_pos cell (b := 2305843009213693951) (by decide)
  have bs : Bd 61 (cell % 2305843009213693951) := bd_of 2305843009213693951 (by omega)
  have n1 := b_mul (szMul_ok bs (show Bd 20 85795 by unfold Bd; decide))
  have bp := bd_of (k := 20) 100 (show p.natAbs ≤ 100 by omega)
  have n2 := b_mul (szMul_ok (show Bd 20 10057 by unfold Bd; decide) bp)
  have n3 := b_mul (szMul_ok ((show Bd 20 10057 by unfold Bd; decide).mul bp) bp)
  have md2 := fm cell (b := 2305843009213693951) (by decide)
  have md3 : ∀ a : Int, binD .Mod (.int a) (.int 2305843009213693921) = some (.int (a % 2305843009213693921)) := fun a => fm a (by decide)
  have t1 : binD .Mult (.int own) (.int 1) = some (.int (own * 1)) := b_mul (szMul_ok bo bd1)
  have t0 : binD .Mult (.int own) (.int 0) = some (.int (own * 0)) := b_mul (szMul_ok bo (bd0 (k := 1)))
  have y0 := Int.emod_nonneg (cell % 2305843009213693951 * 85795 + 10057 * p * p + 601) (b := 2305843009213693921) (by decide)
  have y1 := Int.emod_lt_of_pos (cell % 2305843009213693951 * 85795 + 10057 * p * p + 601) (b := 2305843009213693921) (by decide)
  refine ⟨S ++ [[.int (own * if Q2 ≤ cell.natAbs then 1 else 0), .int ((cell % 2305843009213693951 * 85795 + 10057 * p * p + 601) % 2305843009213693921), .int 0]], ?_, ⟨_, _, _, List.getElem?_concat_length, y0, bd_of 2305843009213693921 (by omega), by decide, by decide⟩⟩
  rw [cf_s (g := f31) rfl]
  have hb : f31.body = .set 2 (.ite (.cmp .Lt (.var 1) (.bi .len [.var 0])) (.idx (.var 0) (.var 1)) (.bin .Add (.bin .Add (.bin .Mod (.bi .int [.bi .sum [.slc (.var 0) none (some (.cst (.int 1)))]]) (.cst (.int 1000003))) (.bin .Mult (.cst (.int 1601)) (.var 1))) (.cst (.int 1093)))) :: f31.body.tail := rfl
  have hN : f31.N.length = 5 := rfl
  have hn : f31.np = 2 := rfl
  simp only [runF, hN, hn]
  rw [hb]
  simp only [List.length_cons, List.length_nil, List.map_cons, List.map_nil, List.replicate, List.cons_append, List.nil_append, y_c, y_set, hcell]
  by_cases hQ : Q2 ≤ cell.natAbs <;> simp [f31, pw1, pw2, pw3, md, md2, md3, t1, t0, n1, n2, n3, hQ, D.pure]
theorem l_cells {k : Nat} {S : Sto} {ns : List Int} : ∃ m : Nat, m ≤ 2 ∧ callF prg (k + 1) 34 [scr ns, .int 2] S = some (.lst (rangeL 0 m), S) := by
  obtain ⟨q, hq, h0, h3⟩ : ∃ q : Int, (if 1 < (if (ns.length : Int) < 2 then (ns.length : Int) else 2) then (if (ns.length : Int) < 2 then (ns.length : Int) else 2) else 1) = q ∧ 0 ≤ q ∧ q ≤ 2 := ⟨_, rfl, by split <;> (try split) <;> omega, by split <;> (try split) <;> omega⟩
  refine ⟨q.toNat, by omega, ?_⟩
  rw [cf_s (g := f34) rfl]
  have rg : rngD [.int q] = some (rangeL 0 q.toNat) := if_pos (by
    unfold rangeOk
    simp only [Bool.and_eq_true, decide_eq_true_eq]
    refine ⟨⟨⟨⟨?_, ?_⟩, ?_⟩, ?_⟩, ?_⟩ <;> first | decide | omega)
  have pr : ∀ (m : Nat), pures (rangeL 0 m) = true := fun m => by
    unfold rangeL
    induction (List.range m) with
    | nil => rfl
    | cons a l ih =>
      show (true && pures _) = true
      rw [Bool.true_and]
      exact ih
  simp [f34, runF, scr, List.replicate, hq, rg, pr]
end Pv.K13

set_option Elab.async false
set_option linter.all false
set_option maxRecDepth 100000
set_option maxHeartbeats 4000000
namespace Pv.K13
open PySem PySem.Spec PyProof.Rows L2
/-! a lap, the law -/
theorem rng5 : rngD [.int 5] = some [.int 0, .int 1, .int 2, .int 3, .int 4] := rfl
theorem rng4 : rngD [.int 4] = some [.int 0, .int 1, .int 2, .int 3] := rfl
def bodyO : List C := match f52.body with
  | .for_ _ _ b :: _ => b
  | _ => []
def bodyI : List C := match bodyO with
  | _ :: _ :: _ :: .for_ _ _ b :: _ => b
  | _ => []
theorem l_inner {k n : Nat} {r : Reg} {u v : Rat} (hr : DrawnR 3 r) (hu : Sz 6 u) (hv : Sz 6 v) {x1 x2 x10 x11 : Slot} : ∀ (xs : List D) (S : Sto) (c : Nat) (x4 x7 x8 x9 : Slot), PotOk S n c → c + 4 * xs.length ≤ 70000 →
    ∃ (y4 y7 y8 y9 : Slot) (S' : Sto), forL (.nm 4) (bW prg (callF prg (k + 14)) bodyI) xs [some (false, .ref n), x1, x2, some (false, (r.mv u v).d), x4, some (false, r.d), some (false, .tup [qD u, qD v]), x7, x8, x9, x10, x11] S = some (.nx [some (false, .ref n), x1, x2, some (false, (r.mv u v).d), y4, some (false, r.d), some (false, .tup [qD u, qD v]), y7, y8, y9, x10, x11], S') ∧ PotOk S' n (c + 4 * xs.length) ∧ S'.length = S.length
  | [], S, c, x4, x7, x8, x9, hp, _ => ⟨x4, x7, x8, x9, S, rfl, by simpa using hp, rfl⟩
  | x :: xs, S, c, x4, x7, x8, x9, hp, hc => by
    simp only [List.length_cons] at hc ⊢
    obtain ⟨p, q, S1, e1, sp, sq, p1, l1⟩ := l_drawn_point (k := k + 10) (most := 5) (by decide) (by decide) hp (by omega)
    have ok1 := hr.ok
    have dp1 := hr.dp
    have np1 := hr.np
    have sz1 := hr.sz
    have ok2 := mv_ok hu hv (by decide : 1 ≤ 8) r ok1
    obtain ⟨dp2, np2, sz2⟩ := mv_dp u v r
    have e2 := ql_is_in (S := S1) (sp.mono (by omega : 6 ≤ 8)) (sq.mono (by omega : 6 ≤ 8)) (by decide) r (k + (9 - r.dp)) ok1
    rw [show k + (9 - r.dp) + 5 + r.dp = k + 14 by omega] at e2
    have e3 := ql_plus (k := k + 11) (S := S1) sp hu
    have e4 := ql_plus (k := k + 11) (S := S1) sq hv
    have e5 := q_is_in (k := k) (S := S1) ok1 (sp.mono (by omega : 6 ≤ 8)) (sq.mono (by omega : 6 ≤ 8)) (by decide) (by omega) (by omega) (by omega)
    have e6 := q_is_in (k := k) (S := S1) ok2 ((sp.add hu (Nat.le_refl _)).mono (by omega : 6 + 6 + 1 ≤ 4 * 8 + 2 * 6 + 2)) ((sq.add hv (Nat.le_refl _)).mono (by omega : 6 + 6 + 1 ≤ 4 * 8 + 2 * 6 + 2)) (by decide) (by omega) (by omega) (by omega)
    rw [mem_mv] at e6
    obtain ⟨s, rs⟩ := (Rp.bl (r.mem p q)).rp (by decide) (by decide)
    obtain ⟨y4, y7, y8, y9, S2, e7, p2, l2⟩ := l_inner (k := k) hr hu hv (x1 := x1) (x2 := x2) (x10 := x10) (x11 := x11) xs S1 (c + 4) (some (false, x)) (some (false, .tup [qD p, qD q])) (some (false, .bl (r.mem p q))) (some (false, .tup [qD (p + u), qD (q + v)])) p1 (by omega)
    refine ⟨y4, y7, y8, y9, S2, ?_, p2.mono (by omega), by omega⟩
    rw [forL_c]
    have d1 := fun S => deB_reg S r
    have d2 := fun S => deB_reg S (r.mv u v)
    generalize r.mem p q = bb at *
    generalize (r.mv u v).d = R2 at *
    generalize r.d = R1 at *
    have eB : exB prg (callF prg (k + 14)) bodyI [some (false, .ref n), x1, x2, some (false, R2), some (false, x), some (false, R1), some (false, .tup [qD u, qD v]), x7, x8, x9, x10, x11] S = some (.nx [some (false, .ref n), x1, x2, some (false, R2), some (false, x), some (false, R1), some (false, .tup [qD u, qD v]), some (false, .tup [qD p, qD q]), some (false, .bl bb), some (false, .tup [qD (p + u), qD (q + v)]), x10, x11], S1) := by
      simp [bodyI, bodyO, f52, runF, L2.ixN, List.replicate, kTup, e1, e2, e3, e4, e5, e6, rs, d1, d2]
    simp [eB, e7]
theorem l_outer {k n : Nat} {x2 x10 x11 : Slot} : ∀ (xs : List D) (S : Sto) (c : Nat) (x1 x3 x4 x5 x6 x7 x8 x9 : Slot), PotOk S n c → c + 600 * xs.length ≤ 60000 →
    ∃ (y1 y3 y4 y5 y6 y7 y8 y9 : Slot) (S' : Sto), forL (.nm 1) (bW prg (callF prg (k + 14)) bodyO) xs [some (false, .ref n), x1, x2, x3, x4, x5, x6, x7, x8, x9, x10, x11] S = some (.nx [some (false, .ref n), y1, x2, y3, y4, y5, y6, y7, y8, y9, x10, x11], S') ∧ PotOk S' n (c + 600 * xs.length) ∧ S'.length = S.length
  | [], S, c, x1, x3, x4, x5, x6, x7, x8, x9, hp, _ => ⟨x1, x3, x4, x5, x6, x7, x8, x9, S, rfl, by simpa using hp, rfl⟩
  | x :: xs, S, c, x1, x3, x4, x5, x6, x7, x8, x9, hp, hc => by
    simp only [List.length_cons] at hc ⊢
    obtain ⟨z, S1, e1, z0, z1, p1, l1⟩ := l_take (k := k + 13) (u := 4) (by decide) (bd_of 4 (by decide)) hp (by omega)
    obtain ⟨d, hd, d3⟩ : ∃ d : Nat, z = (d : Int) ∧ d ≤ 3 := ⟨z.toNat, by omega, by omega⟩
    have w4 : 4 ^ d ≤ 4 ^ 3 := Nat.pow_le_pow_right (by decide) d3
    obtain ⟨r, S2, e2, dr, p2, l2⟩ := l_drawn_region d z hd d3 (k + (9 - d)) n (c + 1) S1 p1 (by omega)
    rw [show k + (9 - d) + 5 + d = k + 14 by omega] at e2
    obtain ⟨u, v, S3, e3, su, sv, p3, l3⟩ := l_drawn_point (k := k + 10) (most := 3) (by decide) (by decide) p2 (by omega)
    have hr := dr.up d3
    have ok1 := hr.ok
    have dp1 := hr.dp
    have np1 := hr.np
    have sz1 := hr.sz
    have ok2 := mv_ok su sv (by decide : 1 ≤ 8) r ok1
    obtain ⟨dp2, np2, sz2⟩ := mv_dp u v r
    have e4 := q_moved (k := k) (S := S3) ok1 (su.mono (by omega : 6 ≤ 8)) (sv.mono (by omega : 6 ≤ 8)) (by decide) (by omega) (by omega) (by omega)
    have e5 := ql_moved (S := S3) (su.mono (by omega : 6 ≤ 8)) (sv.mono (by omega : 6 ≤ 8)) (by decide) r (k + (9 - r.dp)) ok1
    rw [show k + (9 - r.dp) + 5 + r.dp = k + 14 by omega] at e5
    obtain ⟨s, rs⟩ := (rp_reg (by decide) _ ok2).rp (by rw [sz2]; omega) (by rw [dp2]; omega)
    obtain ⟨y4, y7, y8, y9, S4, e6, p4, l4⟩ := l_inner (k := k) hr su sv (x1 := some (false, x)) (x2 := x2) (x10 := x10) (x11 := x11) [.int 0, .int 1, .int 2, .int 3] S3 (c + 1 + 8 * 4 ^ d + 4) x4 x7 x8 x9 p3 (by simp; omega)
    simp only [List.length_cons, List.length_nil] at p4
    obtain ⟨y1, y3, z4, y5, y6, z7, z8, z9, S5, e7, p5, l5⟩ := l_outer (k := k) (x2 := x2) (x10 := x10) (x11 := x11) xs S4 (c + 600) (some (false, x)) (some (false, (r.mv u v).d)) y4 (some (false, r.d)) (some (false, .tup [qD u, qD v])) y7 y8 y9 (p4.mono (by omega)) (by omega)
    refine ⟨y1, y3, z4, y5, y6, z7, z8, z9, S5, ?_, p5.mono (by omega), by omega⟩
    rw [forL_c]
    have d1 := fun S => deB_reg S r
    have d2 := fun S => deB_reg S (r.mv u v)
    have w2 := wk_reg (r.mv u v)
    have eB : exB prg (callF prg (k + 14)) bodyO [some (false, .ref n), some (false, x), x2, x3, x4, x5, x6, x7, x8, x9, x10, x11] S = some (.nx [some (false, .ref n), some (false, x), x2, some (false, (r.mv u v).d), y4, some (false, r.d), some (false, .tup [qD u, qD v]), y7, y8, y9, x10, x11], S4) := by
      generalize (r.mv u v).d = R2 at *
      generalize r.d = R1 at *
      have hb : bodyO = [.par [5, 6] [.call 39 [.var 0, .call 32 [.var 0, .cst (.int 4)]], .call 38 [.var 0, .cst (.int 3)]], .set 3 (.callk 0 [] [.var 5, .var 6]), .ite (.cmp .NotEq (.bi .repr [.var 3]) (.bi .repr [.call 49 [.var 5, .var 6]])) [.ret (.cst (.bl false))] [], .for_ (.nm 4) (.rng [.cst (.int 4)]) bodyI] := rfl
      rw [hb]
      simp [setAll, asgs, wipeR, rng4, e1, e2, e3, e4, e5, rs, e6, d1, d2, w2]
    simp [eB, e7]
theorem l_right {k n c : Nat} {S : Sto} (hp : PotOk S n c) (hc : c ≤ 50000) : ∃ S', callF prg (k + 15) 52 [.ref n] S = some (.bl true, S') ∧ S'.length = S.length := by
  obtain ⟨y1, y3, y4, y5, y6, y7, y8, y9, S1, e1, p1, l1⟩ := l_outer (k := k) (n := n) (x2 := none) (x10 := none) (x11 := none) [.int 0, .int 1, .int 2, .int 3, .int 4] S c none none none none none none none none hp (by simp; omega)
  simp only [List.length_cons, List.length_nil] at p1
  obtain ⟨ps, S2, e2, pk, sz, p2, l2⟩ := l_drawn_patch (k := k + 9) p1 (by omega)
  have h1 := pk.1.1
  have h2 := pk.1.2
  have e3 := q_region_of (k := k + 6) (S := S2) pk sz
  obtain ⟨ok, dp, np, szz⟩ := rgP_ok pk sz
  obtain ⟨s, rs⟩ := (rp_reg (by decide) _ ok).rp (by omega) (by omega)
  obtain ⟨qs, S3, e4, lq, sq, p3, l3⟩ := l_patch_points (k := k + 9) (by omega) h2 sz p2 (by omega)
  obtain ⟨qs', S4, e5, lq', sq', p4, l4⟩ := l_patch_points (k := k + 9) (by omega) h2 sz p3 (by omega)
  have hl4 : S4.length = S.length := by omega
  refine ⟨S4, ?_, hl4⟩
  have ne : ∀ s ∈ sides ps, s.1 ≠ s.2 := fun s hx => sides_ne pk.2.2.2 (by omega) hx
  have c1 : ∀ (x1 x3 x4 x5 x6 x7 x8 x9 : Slot), compL (cmpB prg (callF prg (k + 14)) [10, 11] (.tp [.nm 10, .nm 11]) [] (.call 50 [.var 10, .var 11]) [some (false, .ref n), x1, some (false, .tup (ps.map ptD)), x3, x4, x5, x6, x7, x8, x9, none, none]) (zipL (ps.map ptD) ((ps.map ptD).drop 1 ++ (ps.map ptD).take 1)) S2 = some ((sides ps).map fun s => (hR s.1 s.2).d, S2) := by
    intro x1 x3 x4 x5 x6 x7 x8 x9
    rw [← List.map_drop, ← List.map_take, ← List.map_append, zip_pt]
    refine compL_fn (sides ps) fun s hx => ?_
    obtain ⟨m1, m2⟩ := sides_mem hx
    have e := (q_half_of (k := k + 9) (S := S2) (by decide) (sz _ m1) (sz _ m2) (ne s hx)).2
    generalize ptD s.1 = v1 at *
    generalize ptD s.2 = v2 at *
    generalize ps.map ptD = ds at *
    simp [wipeR, asgs, e]
  have c2 : ∀ (x1 x4 x5 x6 x7 x8 x9 : Slot), compL (cmpB prg (callF prg (k + 14)) [7] (.nm 7) [] (.cmp .Eq (.bi .repr [.call 21 [.var 3, .var 7]]) (.bi .repr [.call 48 [.var 2, .var 7]])) [some (false, .ref n), x1, some (false, .tup (ps.map ptD)), some (false, (rgP ps).d), x4, x5, x6, x7, x8, x9, none, none]) ((qs ++ qs').map ptD) S4 = some ((qs ++ qs').map fun _ => .bl true, S4) := by
    intro x1 x4 x5 x6 x7 x8 x9
    refine compL_fn (qs ++ qs') fun p hx => ?_
    have sp : Sz 60 p.1 ∧ Sz 60 p.2 := by
      rcases List.mem_append.mp hx with h | h
      · exact sq p h
      · exact sq' p h
    have f1 := q_is_in (k := k) (S := S4) ok (sp.1.mono (by omega : 60 ≤ 16 * 14 + 8)) (sp.2.mono (by omega : 60 ≤ 16 * 14 + 8)) (by decide) (by omega) (by omega) (by omega)
    have f2 := l_is_in_patch (k := k + 8) (S := S4) (m := 60) pk (fun q hq => ⟨(sz q hq).1.mono (by omega), (sz q hq).2.mono (by omega)⟩) sp
    obtain ⟨t, rt⟩ := (Rp.bl ((rgP ps).mem p.1 p.2)).rp (by decide) (by decide)
    rw [show D.tup [qD p.1, qD p.2] = ptD p from rfl] at f1
    generalize (rgP ps).mem p.1 p.2 = bb at *
    generalize (rgP ps).d = R at *
    generalize ptD p = v at *
    generalize ps.map ptD = ds at *
    simp [wipeR, f1, f2, rt]
  have bo := bools_t (qs ++ qs')
  have al := all_t (qs ++ qs')
  have lqq : ((qs ++ qs').map ptD).length < 100000 := by rw [List.length_map, List.length_append, lq, lq']; decide
  have lz : (zipL (ps.map ptD) ((ps.map ptD).drop 1 ++ (ps.map ptD).take 1)).length < 100000 := by
    rw [← List.map_drop, ← List.map_take, ← List.map_append, zip_pt, List.length_map, show ps.zip (ps.drop 1 ++ ps.take 1) = sides ps from rfl, sides_len ps (by omega)]
    omega
  have lo : ((sides ps).map fun s => (hR s.1 s.2).d).length ≤ 8 := by
    rw [List.length_map, sides_len ps (by omega)]
    omega
  have aq : binD .Add (.lst (qs.map ptD)) (.lst (qs'.map ptD)) = some (.lst ((qs ++ qs').map ptD)) := by
    have : (qs.map ptD).length + (qs'.map ptD).length ≤ 100000 := by rw [List.length_map, List.length_map, lq, lq']; decide
    show (if _ then _ else _) = _
    rw [if_pos this, List.map_append]
  have ar : binD .Add (.tup [.str "and"]) (.tup ((sides ps).map fun s => (hR s.1 s.2).d)) = some (rgP ps).d := by
    have : [D.str "and"].length + ((sides ps).map fun s => (hR s.1 s.2).d).length ≤ 100000 := by simp only [List.length_cons, List.length_nil]; omega
    rw [rgP_d]
    show (if _ then _ else _) = _
    rw [if_pos this]
    rfl
  have dR := fun S => deB_reg S (rgP ps)
  have wR := wk_reg (rgP ps)
  have pR := reg_pure (rgP ps)
  generalize ((qs ++ qs').map fun _ => true) = bbs at *
  generalize ((qs ++ qs').map fun _ => D.bl true) = bds at *
  generalize (qs ++ qs').map ptD = Q at *
  generalize qs.map ptD = Q1 at *
  generalize qs'.map ptD = Q2 at *
  generalize (rgP ps).d = R at *
  generalize ((sides ps).map fun s => (hR s.1 s.2).d) = Hs at *
  have ld : (ps.map ptD).length ≤ 8 := by rw [List.length_map]; exact h2
  generalize ps.map ptD = ds at *
  have sl := slc_d1 (ds := ds)
  have s0 := slc_t1 ds
  have ad : binD .Add (.tup (ds.drop 1)) (.tup (ds.take 1)) = some (.tup (ds.drop 1 ++ ds.take 1)) := by
    have : (ds.drop 1).length + (ds.take 1).length ≤ 100000 := by rw [List.length_drop, List.length_take]; omega
    show (if _ then _ else _) = _
    rw [if_pos this]
  generalize ds.drop 1 = d1 at *
  generalize ds.take 1 = d2 at *
  generalize hz : zipL ds (d1 ++ d2) = zz at *
  rw [cf_s (g := f52) rfl]
  have hb : f52.body = .for_ (.nm 1) (.rng [.cst (.int 5)]) bodyO :: f52.body.tail := rfl
  have hN : f52.N.length = 12 := rfl
  have hn : f52.np = 1 := rfl
  simp only [runF, hN, hn]
  rw [hb]
  simp only [List.replicate] at e1 ⊢
  simp [rng5, e1, f52, kTup, wipeR, e2, e3, rs, sl, s0, ad, hz, lz, c1, lo, ar, dR, wR, pR, e4, e5, aq, lqq, c2, bo, al, tkl hl4]
theorem l_law (ns : List Int) : ∃ S', callF prg 40 53 [scr ns] [] = some (.bl true, S') := by
  obtain ⟨m, hm, ec⟩ := l_cells (k := 38) (S := []) (ns := ns)
  have turn : ∀ (p : Int) (S : Sto), 0 ≤ p → p ≤ 100 → ∃ S', cmpB prg (callF prg 39) [1] (.nm 1) [] (.call 52 [.call 31 [.var 0, .var 1]]) [some (false, scr ns), none] (.int p) S = some (some (.bl true), S') := fun p S h0 h1 => by
    obtain ⟨S1, e1, p1⟩ := l_pot (k := 38) (S := S) (ns := ns) h0 h1
    obtain ⟨S2, e2, _⟩ := l_right (k := 24) p1 (by omega)
    exact ⟨S2, by simp [wipeR, e1, e2]⟩
  have comp : ∀ (l : List Nat) (S : Sto), (∀ i ∈ l, i ≤ 100) → ∃ S', compL (cmpB prg (callF prg 39) [1] (.nm 1) [] (.call 52 [.call 31 [.var 0, .var 1]]) [some (false, scr ns), none]) (l.map fun (i : Nat) => D.int (0 + i)) S = some (l.map fun _ => D.bl true, S') := fun l => by
    induction l with
    | nil => exact fun S _ => ⟨S, rfl⟩
    | cons a l ih =>
      intro S h
      obtain ⟨S1, e1⟩ := turn (0 + a) S (by omega) (by have := h a List.mem_cons_self; omega)
      obtain ⟨S2, e2⟩ := ih S1 fun i hi => h i (List.mem_cons_of_mem _ hi)
      exact ⟨S2, compL_cons e1 e2⟩
  obtain ⟨S', e⟩ := comp (List.range m) [] fun i hi => by have := List.mem_range.mp hi; omega
  have bo : ∀ l : List Nat, boolsOf (l.map fun _ => D.bl true) = some (l.map fun _ => true) := fun l => by
    induction l with
    | nil => rfl
    | cons a l ih => simp [ih]
  have al : ((List.range m).map fun _ => true).all id = true := by simp
  have ln : (rangeL 0 m).length < 100000 := by
    unfold rangeL
    simp
    omega
  refine ⟨[], ?_⟩
  rw [cf_s (g := f53) rfl]
  have e' : compL (cmpB prg (callF prg 39) [1] (.nm 1) [] (.call 52 [.call 31 [.var 0, .var 1]]) [some (false, scr ns), none]) (rangeL 0 m) [] = some ((List.range m).map fun _ => D.bl true, S') := e
  simp only [runF, f53]
  simp [ec, ln, e', bo]
end Pv.K13

open PySem PySem.W PyProof.Rows
theorem PySem.Challenge.cw_crossingstold_k13_whole_points_in_region_holds : PySem.Challenge.rw_crossingstold_k13_whole_points_in_region.Holds :=
  Pv.K13.holds_of fun ns _ _ => Pv.K13.l_law ns
