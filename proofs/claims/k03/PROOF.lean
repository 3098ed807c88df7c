import PyProof.Rows.All
import HandS.TupSets
import KE.KeyNested
import KE.KDictKeyed
import KE.SortData
import HandS.ForMost
import HandS.TupAny
import HandS.Deep
import PyProof.ReprReads
import HandS.Wide
import HandS.WideBits
import HandS.IsInst
import HandS.Style
import HandS.Zip
import HandS.Conv
import HandS.TupLe
import HandS.Text
import KE.LtData
import HandS.More
import HandS.DictComp
import OpenK.KMore
import KE.KDictSum
import HandS.Ends
import HandS.Defaults
import HandS.Head0
import HandS.Head1
import HandS.Head2
import HandS.HeadHook1
import HandS.HeadHook2
import HandS.HeadEnd
import PyProof.StrLawsIn
import PySem.Challenge.RW_taughtrules_k03_cases_lots_and_strengths
section
/-! keys of sets: tuples of any depth; what a set asks of them beside hash and == -/
namespace Mr
open PySem PySem.Spec PyProof.Rows L2
section
variable {P : Program} {w : World}
/-- what a pool needs of its keys -/
structure Fit {K : Type} [DecidableEq K] (knd : HeapKind P w K) : Prop where
  stays : knd.Stays
  byv : ∀ {A : Around} {E : Value → Shared → Prop} {s : Shared} {k : K} {a : Addr} {Q : Bool → Shared → Prop}, knd.is s.heap k a → (∀ b, Q b s) → wpAny (model P w) A (hashByValue 8 (.ref a)) Q E s
  cls : ∀ {A : Around} {E : Value → Shared → Prop} {s : Shared} {k : K} {a : Addr} {Q : Bool → Shared → Prop}, knd.is s.heap k a → Q false s → wpAny (model P w) A (ofAClassStatement 8 (.ref a)) Q E s

theorem atom_class (n : Nat) {v : Value} (h : ∀ a, v ≠ .ref a) : ofAClassStatement n v = pure false := by
  cases v with
  | ref a => exact absurd rfl (h a)
  | _ => cases n <;> rfl
theorem class_atom {n : Nat} {v : Value} {A : Around} {E : Value → Shared → Prop} {s : Shared} {Q : Bool → Shared → Prop} (h : ∀ a, v ≠ .ref a) (q : Q false s) : wpAny (model P w) A (ofAClassStatement n v) Q E s := by
  rw [atom_class n h]
  exact wpAny_pure q
theorem atom_hash (n : Nat) {h : Heap} {k : NestedKey} {v : Value} (x : NestedIs h k v) (hv : ∀ a, v ≠ .ref a) : ∃ b, hashByValue n v = pure b := by
  cases x with
  | none => exact ⟨true, by cases n <;> rfl⟩
  | bool _ => exact ⟨true, by cases n <;> rfl⟩
  | int _ _ => exact ⟨true, by cases n <;> rfl⟩
  | text _ _ => exact ⟨false, by cases n <;> rfl⟩
  | tup _ _ _ _ => exact absurd rfl (hv _)
theorem all_mem {h : Heap} : ∀ {ks : List NestedKey} {vs : List Value}, NestedAll h ks vs → ∀ v ∈ vs, ∃ k ∈ ks, NestedIs h k v
  | _, _, .nil, v, hv => by cases hv
  | _, _, .cons x t, v, hv => by
    rcases List.mem_cons.mp hv with e | hv
    · exact ⟨_, List.mem_cons_self, e ▸ x⟩
    · obtain ⟨k, hk, y⟩ := all_mem t v hv
      exact ⟨k, List.mem_cons_of_mem _ hk, y⟩
theorem depth_mem : ∀ {ks : List NestedKey} {k : NestedKey}, k ∈ ks → k.depth ≤ NestedKey.depthAll ks
  | k' :: ks, k, hk => by
    unfold NestedKey.depthAll
    rcases List.mem_cons.mp hk with e | hk
    · rw [e]; exact Nat.le_max_left _ _
    · exact Nat.le_trans (depth_mem hk) (Nat.le_max_right _ _)
theorem key_byv : ∀ (n : Nat) {A : Around} {E : Value → Shared → Prop} {s : Shared} {k : NestedKey} {v : Value} {Q : Bool → Shared → Prop}, NestedIs s.heap k v → (∀ b, Q b s) → wpAny (model P w) A (hashByValue n v) Q E s := by
  intro n
  induction n with
  | zero =>
    intro A E s k v Q x q
    cases v with
    | ref a => exact wpAny_pure (q _)
    | _ =>
      obtain ⟨b, e⟩ := atom_hash 0 x (fun a z => nomatch z)
      rw [e]
      exact wpAny_pure (q b)
  | succ n ih =>
    intro A E s k v Q x q
    cases x with
    | tup ho hc hd hi =>
      rename_i a o vs m ks
      have ty : s.TypeIs (.ref a) "tuple" := ⟨o, ho, hc⟩
      unfold hashByValue
      refine wpAny_bind (wpAny_specialOf ty F.slot_tuple_hash.lookup ?_)
      show wpAny _ _ (seqItems? (.ref a) >>= _) _ _ s
      refine wpAny_bind (wpAny_seqItems ho hd ?_)
      refine wpAny_bind ?_
      show wpAny _ _ (forIn vs _ _) _ _ s
      rw [← Array.forIn_toList]
      refine wpAny_forIn_list _ (fun rest r z => z = s ∧ ∀ u ∈ rest, ∃ k, NestedIs s.heap k u) _ ?_ ?_ _ _ ⟨rfl, fun u hu => let ⟨k, _, y⟩ := all_mem hi u hu; ⟨k, y⟩⟩
      · rintro u rest r z ⟨rfl, al⟩
        obtain ⟨k, y⟩ := al u List.mem_cons_self
        refine wpAny_bind (ih y fun b => ?_)
        cases b with
        | false => exact wpAny_pure (wpAny_pure (q false))
        | true => exact wpAny_pure ⟨rfl, fun y hy => al y (List.mem_cons_of_mem _ hy)⟩
      · rintro ⟨r1, r2⟩ z ⟨rfl, _⟩
        cases r1 with
        | none => exact wpAny_pure (q _)
        | some b => exact wpAny_pure (q _)
    | none =>
      obtain ⟨b, e⟩ := atom_hash (n + 1) (NestedIs.none (h := s.heap)) (fun a z => nomatch z)
      rw [e]
      exact wpAny_pure (q b)
    | bool hb =>
      obtain ⟨b, e⟩ := atom_hash (n + 1) (NestedIs.bool (h := s.heap) hb) (fun a z => nomatch z)
      rw [e]
      exact wpAny_pure (q b)
    | int i t =>
      obtain ⟨b, e⟩ := atom_hash (n + 1) (NestedIs.int (h := s.heap) i t) (fun a z => nomatch z)
      rw [e]
      exact wpAny_pure (q b)
    | text i t =>
      obtain ⟨b, e⟩ := atom_hash (n + 1) (NestedIs.text (h := s.heap) i t) (fun a z => nomatch z)
      rw [e]
      exact wpAny_pure (q b)
theorem key_cls : ∀ (n : Nat) {A : Around} {E : Value → Shared → Prop} {s : Shared} {k : NestedKey} {v : Value} {Q : Bool → Shared → Prop}, NestedIs s.heap k v → k.depth ≤ n → Q false s → wpAny (model P w) A (ofAClassStatement n v) Q E s := by
  intro n
  induction n with
  | zero =>
    intro A E s k v Q x hn q
    rw [atom_class 0 (fun a e => ?_)]
    · exact wpAny_pure q
    · subst e
      cases x
      unfold NestedKey.depth at hn
      omega
  | succ n ih =>
    intro A E s k v Q x hn q
    cases x with
    | tup ho hc hd hi =>
      rename_i a o vs m ks
      have ty : s.TypeIs (.ref a) "tuple" := ⟨o, ho, hc⟩
      unfold ofAClassStatement
      refine wpAny_bind (wpAny_typeOf ty ?_)
      dsimp only
      have e : (("tuple" : String) == "tuple") = true := by decide
      simp only [e, if_true, Bool.not_true, Bool.false_eq_true, if_false]
      try refine wpAny_bind (wpAny_pure ?_)
      try simp only [Bool.not_true, Bool.false_eq_true, if_false]
      show wpAny _ _ (seqItems? (.ref a) >>= _) _ _ s
      refine wpAny_bind (wpAny_seqItems ho hd ?_)
      dsimp only
      refine wpAny_bind ?_
      show wpAny _ _ (forIn vs _ _) _ _ s
      rw [← Array.forIn_toList]
      refine wpAny_forIn_list _ (fun rest r z => r.1 = none ∧ z = s ∧ ∀ u ∈ rest, ∃ k, NestedIs s.heap k u ∧ k.depth ≤ n) _ ?_ ?_ _ _ ⟨rfl, rfl, fun u hu => ?_⟩
      · rintro u rest r z ⟨hr, rfl, al⟩
        obtain ⟨k, y, hk⟩ := al u List.mem_cons_self
        refine wpAny_bind (ih y hk ?_)
        simp only [Bool.false_eq_true, if_false]
        exact wpAny_pure ⟨rfl, rfl, fun y hy => al y (List.mem_cons_of_mem _ hy)⟩
      · rintro ⟨r1, r2⟩ z ⟨hr, rfl, _⟩
        simp only at hr
        subst hr
        exact wpAny_pure q
      · obtain ⟨k, hk, y⟩ := all_mem hi u hu
        refine ⟨k, y, ?_⟩
        have := depth_mem hk
        unfold NestedKey.depth at hn
        omega
    | none => exact class_atom (fun a z => by cases z) q
    | bool hb => exact class_atom (fun a z => by cases z) q
    | int i t => exact class_atom (fun a z => by cases z) q
    | text i t => exact class_atom (fun a z => by cases z) q
theorem fit_nested : Fit (nestedKind P w) where
  stays := PySem.nestedKind_stays
  byv := fun x q => key_byv 8 x.1 q
  cls := fun x q => key_cls 8 x.1 x.2 q

variable {K : Type} [DecidableEq K] {knd : HeapKind P w K} {A : Around} {E : Value → Shared → Prop} {s : Shared}
/-- looking for a key among keys tells the program nothing -/
theorem unseen (F : Fit knd) {k : K} {x : Addr} {Q : Bool → Shared → Prop} (hx : knd.is s.heap k x) {ys : List Value} (hy : ∀ y ∈ ys, ∃ k' c, y = Value.ref c ∧ knd.is s.heap k' c) (q : Q false s) :
    wpAny (model P w) A (searchCouldBeSeen (.ref x) ys) Q E s := by
  unfold searchCouldBeSeen
  refine wpAny_bind (wpAny_forIn_list _ (fun rest r z => r.1 = none ∧ z = s ∧ ∀ y ∈ rest, ∃ k' c, y = Value.ref c ∧ knd.is s.heap k' c) _ ?_ ?_ _ _ ⟨rfl, rfl, hy⟩)
  · rintro u rest r z ⟨hr, rfl, al⟩
    obtain ⟨k', c, rfl, hc⟩ := al u List.mem_cons_self
    have tl : ∀ y ∈ rest, ∃ k' c, y = Value.ref c ∧ knd.is z.heap k' c := fun y h => al y (List.mem_cons_of_mem _ h)
    dsimp only
    cases hv : (x == c || (carriedByValue (.ref x) && carriedByValue (.ref c))) with
    | true => simp only [if_true]; exact wpAny_pure ⟨rfl, rfl, tl⟩
    | false =>
      simp only [Bool.false_eq_true, if_false]
      refine wpAny_bind (knd.quiet hx ?_)
      simp only [Bool.not_true, Bool.false_eq_true, if_false]
      refine wpAny_bind (knd.quiet hc ?_)
      simp only [Bool.not_true, Bool.false_eq_true, if_false]
      refine wpAny_bind (F.cls hx ?_)
      simp only [Bool.false_eq_true, if_false]
      refine wpAny_bind (F.cls hc ?_)
      simp only [Bool.false_eq_true, if_false]
      exact wpAny_pure ⟨rfl, rfl, tl⟩
  · rintro ⟨r1, r2⟩ z ⟨hr, rfl, _⟩
    simp only at hr
    subst hr
    exact wpAny_pure q
end
end Mr
end
section
/-! a pool: a set whose keys are tuples; the search in it -/
namespace Mr
open PySem PySem.Spec PyProof.Rows L2
section
variable {P : Program} {w : World} {K : Type} [DecidableEq K] {knd : HeapKind P w K} {A : Around} {E : Value → Shared → Prop} {s : Shared}
def row (knd : HeapKind P w K) (p : K × Addr) : Int × Value := (knd.hash p.1, Value.ref p.2)
structure Pool (knd : HeapKind P w K) (h : Heap) (a : Addr) (L : List (K × Addr)) (es : Array (Int × Value)) (ep : Nat) (t : SetTable) : Prop where
  obj : ∃ o, h.get? a = some o ∧ o.ExactSet ∧ o.data = .set es ep t
  rows : es.toList = L.map (row knd)
  tab : TabOk t (L.map fun p => knd.hash p.1)
  once : (L.map Prod.fst).Nodup
  keys : ∀ p ∈ L, knd.is h p.1 p.2
  led : w.params.followText "set-order" = true ∨ t.led = true
  room : L.length * 5 < t.mask * 3
  few : L.length < 64
variable {a : Addr} {L : List (K × Addr)} {es : Array (Int × Value)} {ep : Nat} {t : SetTable}
theorem rows_len (e : es.toList = L.map (row knd)) : es.size = L.length := by
  rw [← Array.length_toList, e, List.length_map]
theorem fits_of {n : Nat} (h1 : t.place.size = n) (h2 : t.dummies = #[]) (h3 : n ≤ t.mask) : t.fits n = true := by
  unfold SetTable.fits SetTable.fill
  simp [h1, h2, h3]
theorem Pool.fits (R : Pool knd s.heap a L es ep t) : t.fits es.size = true := by
  have z := R.tab.sz
  have y := R.room
  rw [List.length_map] at z
  rw [rows_len R.rows]
  exact fits_of z R.tab.dm (by omega)
theorem rows_at (e : es.toList = L.map (row knd)) {i : Nat} {p : K × Addr} (h : L[i]? = some p) : es[i]? = some (row knd p) := by
  rw [← Array.getElem?_toList, e, List.getElem?_map, h, Option.map_some]
theorem rows_hash (e : es.toList = L.map (row knd)) {i : Nat} {p : K × Addr} (h : L[i]? = some p) : (es[i]?.map (·.1)).getD 0 = knd.hash p.1 := by
  rw [rows_at e h]
  rfl
theorem Pool.whole (R : Pool knd s.heap a L es ep t) : ¬ t.gaveWay = true := by
  unfold SetTable.gaveWay
  rw [mask_odd R.tab.mok]
  decide
theorem Pool.lt (R : Pool knd s.heap a L es ep t) {i j : Nat} (h : t.place.toList[i]? = some j) : ∃ p, L[i]? = some p := by
  have z := R.tab.sz
  rw [List.length_map] at z
  obtain ⟨q, _⟩ := List.getElem?_eq_some_iff.mp h
  rw [Array.length_toList, z] at q
  exact ⟨_, List.getElem?_eq_getElem q⟩
/-- the first probe of a hash, and the c-th -/
abbrev begin_ (m : Nat) (g : Int) : SetTable.Probe := runAt m (SetTable.bits g % (m + 1)) (SetTable.bits g)
abbrev step_ (m : Nat) (g : Int) (c : Nat) : SetTable.Probe := nth m (begin_ m g) c
theorem nth_clear (m : Nat) : ∀ (n : Nat) (p : SetTable.Probe), p.dummy = none → (nth m p n).dummy = none
  | 0, _, h => h
  | n + 1, p, h => nth_clear m n (adv m p) (by unfold adv; split <;> exact h)
theorem step_more (m : Nat) (g : Int) (c q : Nat) : nth m (step_ m g c) q = step_ m g (c + q) := (nth_add m c _ q).symm
/-- the search, from the c-th probe on -/
theorem hunt (F : Fit knd) (R : Pool knd s.heap a L es ep t) {x : Addr} {k : K} (hx : knd.is s.heap k x) (hu : knd.room A) {N : Nat} (bound : N < 10 * SetTable.turns t.mask)
    (free : way t.mask (knd.hash k) N ∉ t.place.toList) (full : ∀ c, c < N → way t.mask (knd.hash k) c ∈ t.place.toList) {Q : SetFound → Shared → Prop}
    (yes : k ∈ L.map Prod.fst → Q (.there none) s) (no : k ∉ L.map Prod.fst → Q (.free (way t.mask (knd.hash k) N) false) s) :
    ∀ (f c : Nat) (st : Option SetTable.Probe), st.getD (t.probeStart (knd.hash k)) = step_ t.mask (knd.hash k) c → c ≤ N → N < c + f →
      (∀ (i : Nat) p, L[i]? = some p → p.1 = k → ∃ c', c ≤ c' ∧ c' < N ∧ t.place.toList[i]? = some (way t.mask (knd.hash k) c')) →
      wpAny (model P w) A (setSearchFrom a (.ref x) (knd.hash k) true f st) Q E s := by
  obtain ⟨o, ho, -, hd⟩ := R.obj
  have slots : ∀ c, way t.mask (knd.hash k) c = (step_ t.mask (knd.hash k) c).j := fun _ => rfl
  intro f
  induction f with
  | zero => intro c _ _ h1 h2; exact absurd h1 (by omega)
  | succ f ih =>
    intro c st es0 hc hf ahead
    rw [setSearchFrom_succ]
    refine wpAny_bind (wpAny_setState_of ho hd R.fits ?_)
    dsimp only
    refine wp_if_neg R.whole ?_
    try refine wpAny_bind (wpAny_pure ?_)
    have look := go_spec t R.tab.ris R.tab.dm (fun i => (es[i]?.map (·.1)).getD 0) (knd.hash k) (10 * SetTable.turns t.mask) (N - c) (step_ t.mask (knd.hash k) c) (nth_clear _ _ _ rfl) (by omega)
      (fun q hq => by rw [step_more]; exact full (c + q) (by omega)) (by rw [step_more, show c + (N - c) = N by omega]; exact free)
    simp only [step_more] at look
    rcases look with ⟨q, i, hq, hi, -, clear, found⟩ | ⟨clear, found⟩
    · have found' : t.probe (fun i => (es[i]?.map (·.1)).getD 0) (knd.hash k) (st.getD (t.probeStart (knd.hash k))) = some (.candidate (step_ t.mask (knd.hash k) (c + q)).j i (step_ t.mask (knd.hash k) (c + (q + 1)))) := by
        rw [es0]
        exact found
      rw [found']
      dsimp only
      obtain ⟨p, hp⟩ := R.lt hi
      have mem : p ∈ L := List.mem_of_getElem? hp
      have after : wpAny (model P w) A (searchRest a (.ref x) (knd.hash k) true f es t (step_ t.mask (knd.hash k) (c + q)).j i (step_ t.mask (knd.hash k) (c + (q + 1)))) Q E s := by
        unfold searchRest
        rw [rows_at R.rows hp]
        show wpAny _ _ (holding [Value.ref p.2] (eqBool (.ref p.2) (.ref x)) >>= _) _ _ s
        refine wpAny_bind (wpAny_holding (knd.eqBool hu (R.keys p mem) hx ?_))
        refine wpAny_bind (wpAny_setState_of ho hd R.fits ?_)
        dsimp only
        by_cases same : p.1 = k
        · refine wp_if_pos (by simp [same]) (wpAny_pure (yes (List.mem_map.mpr ⟨p, mem, same⟩)))
        · refine wp_if_neg (by simp [same]) ?_
          try refine wpAny_bind (wpAny_pure ?_)
          rw [sameMem]
          dsimp only
          have live := slot_live R.tab.ris hi
          simp only [if_true, live, rows_at R.rows hp]
          show wpAny _ _ (isSame (Value.ref p.2) (Value.ref p.2) >>= _) _ _ s
          refine wpAny_bind (wpAny_isSame_ref_self (wpAny_bind (wpAny_pure ?_)))
          simp only [if_true]
          refine wp_if_neg (by simp [same]) ?_
          refine ih (c + (q + 1)) _ rfl (by omega) (by omega) fun i0 p0 h0 hk0 => ?_
          obtain ⟨c', a1, a2, a3⟩ := ahead i0 p0 h0 hk0
          refine ⟨c', ?_, a2, a3⟩
          rcases Nat.lt_or_ge (c + q) c' with z | z
          · omega
          exfalso
          rcases Nat.lt_or_eq_of_le z with z | z
          · refine clear (c' - c) i0 (by omega) (by rw [show c + (c' - c) = c' by omega]; exact a3) ?_
            rw [← hk0]
            exact rows_hash R.rows h0
          · rw [z] at a3
            have live2 := slot_live R.tab.ris a3
            rw [slots, live] at live2
            injection live2 with live2
            rw [← live2, hp] at h0
            injection h0 with h0
            exact same (h0 ▸ hk0)
      by_cases hl : t.led = true
      · refine wp_if_neg (by simp [hl]) ?_
        try refine wpAny_bind (wpAny_pure ?_)
        exact after
      · refine wp_if_pos (by simp [hl]) (wpAny_bind (unseen F hx (fun y hy => ?_) ?_))
        · obtain ⟨e, he, rfl⟩ := List.mem_map.mp hy
          have m2 : e ∈ es.toList := by
            have z : e ∈ es ∧ e.1 = knd.hash k := by simpa using he
            simpa using z.1
          rw [R.rows] at m2
          obtain ⟨r, hr, rfl⟩ := List.mem_map.mp m2
          exact ⟨r.1, r.2, rfl, R.keys r hr⟩
        · refine wp_if_neg (by decide) ?_
          try refine wpAny_bind (wpAny_pure ?_)
          exact after
    · have found' : t.probe (fun i => (es[i]?.map (·.1)).getD 0) (knd.hash k) (st.getD (t.probeStart (knd.hash k))) = some (.empty (way t.mask (knd.hash k) N) none) := by
        rw [es0, slots, show N = c + (N - c) by omega]
        exact found
      rw [found']
      refine wpAny_pure (no fun hm => ?_)
      obtain ⟨p0, h0, hk0⟩ := List.mem_map.mp hm
      obtain ⟨i0, hi0⟩ := List.getElem?_of_mem h0
      obtain ⟨c', a1, a2, a3⟩ := ahead i0 p0 hi0 hk0
      refine clear (c' - c) i0 (by omega) (by rw [show c + (c' - c) = c' by omega]; exact a3) ?_
      rw [← hk0]
      exact rows_hash R.rows hi0
theorem seek (F : Fit knd) (R : Pool knd s.heap a L es ep t) {x : Addr} {k : K} (hx : knd.is s.heap k x) (hu : knd.room A) {Q : SetFound → Shared → Prop} (yes : k ∈ L.map Prod.fst → Q (.there none) s)
    (no : ∀ N, k ∉ L.map Prod.fst → way t.mask (knd.hash k) N ∉ t.place.toList → (∀ c, c < N → way t.mask (knd.hash k) c ∈ t.place.toList) → Q (.free (way t.mask (knd.hash k) N) false) s) :
    wpAny (model P w) A (setSearch a (.ref x) (knd.hash k) true) Q E s := by
  have y := R.room
  obtain ⟨N, bound, free, full⟩ := R.tab.first (by rw [List.length_map]; omega) (knd.hash k)
  have small : N < 100000 := by
    have : 10 * SetTable.turns t.mask ≤ 2000 := by
      unfold SetTable.turns
      rcases R.tab.mok with e | e | e <;> omega
    omega
  unfold setSearch
  refine hunt F R hx hu bound free full yes (fun z => no N z free full) 100000 0 none rfl (Nat.zero_le _) (by omega) fun i p hp hk => ?_
  have hi : (L.map fun p => knd.hash p.1)[i]? = some (knd.hash k) := by rw [List.getElem?_map, hp, ← hk, Option.map_some]
  have z := R.tab.sz
  rw [List.length_map] at z
  have lt : i < t.place.toList.length := by
    rw [Array.length_toList, z]
    exact (List.getElem?_eq_some_iff.mp hp).1
  have hj := List.getElem?_eq_getElem lt
  obtain ⟨c, hc, e⟩ := R.tab.before free hi hj
  exact ⟨c, Nat.zero_le _, hc, by rw [hj, e]⟩
end
end Mr
end
section
/-! a pool: a key laid in -/
namespace Mr
open PySem PySem.Spec PyProof.Rows L2
theorem range_all {α : Type} : ∀ L : List α, (List.range L.length).filterMap (fun i => L[i]?) = L
  | [] => rfl
  | x :: L => by
    rw [List.length_cons, List.range_succ_eq_map, List.filterMap_cons, List.filterMap_map]
    show x :: (List.range L.length).filterMap (fun i => L[i]?) = _
    rw [range_all L]
section
variable {P : Program} {w : World} {K : Type} [DecidableEq K] {knd : HeapKind P w K} {A : Around} {E : Value → Shared → Prop} {s : Shared}
theorem rows_in_order {L : List (K × Addr)} {es : Array (Int × Value)} {order : Array Nat} (hr : es.toList = L.map (row knd)) (hp : order.toList.Perm (List.range L.length)) :
    ∃ M : List (K × Addr), (order.filterMap (es[·]?)).toList = M.map (row knd) ∧ M.Perm L ∧ (M.map fun p => knd.hash p.1) = order.toList.map fun i => (es.map (·.1)).getD i 0 := by
  refine ⟨order.toList.filterMap fun i => L[i]?, ?_, ?_, ?_⟩
  · rw [Array.toList_filterMap, List.map_filterMap]
    have z : (fun i => es[i]?) = fun i => (L[i]?).map (row knd) := funext fun i => by rw [← Array.getElem?_toList, hr, List.getElem?_map]
    rw [z]
  · have z := hp.filterMap fun i => L[i]?
    rw [range_all] at z
    exact z
  · have lt : ∀ i ∈ order.toList, i < L.length := fun i hi => List.mem_range.mp (hp.mem_iff.mp hi)
    generalize order.toList = l at lt
    induction l with
    | nil => rfl
    | cons i l ih =>
      have z := List.getElem?_eq_getElem (lt i List.mem_cons_self)
      have y : (es.map (·.1)).getD i 0 = knd.hash (L[i]'(lt i List.mem_cons_self)).1 := by
        rw [Array.getD_eq_getD_getElem?, Array.getElem?_map]
        exact rows_hash hr z
      rw [List.filterMap_cons_some z, List.map_cons, List.map_cons, ih fun j hj => lt j (List.mem_cons_of_mem _ hj), y]
theorem stay_set (F : Fit knd) {h h' : Heap} {k : K} {b a : Addr} {o : Obj} {es : Array (Int × Value)} {ep : Nat} {t : SetTable} (x : knd.is h k b) (ho : h.get? a = some o) (hd : o.data = .set es ep t) (sb : Heap.SameBut a h h') : knd.is h' k b :=
  F.stays.stays (fun c u vs n hc hu => (sb.2 c fun e => by
    subst e
    rw [ho] at hc
    injection hc with hc
    rw [← hc, hd] at hu
    cases hu).trans hc) x
theorem stay (F : Fit knd) {h h' : Heap} {k : K} {b : Addr} (x : knd.is h k b) (keep : ∀ c o, h.get? c = some o → h'.get? c = some o) : knd.is h' k b :=
  F.stays.stays (fun c u _ _ hc _ => keep c u hc) x
variable {a : Addr} {L : List (K × Addr)} {es : Array (Int × Value)} {ep : Nat} {t : SetTable}
theorem widen (F : Fit knd) {o : Obj} (ho : s.heap.get? a = some o) (hex : o.ExactSet) (hd : o.data = .set es ep t) (rows : es.toList = L.map (row knd)) (tab : TabOk t (L.map fun p => knd.hash p.1)) (le : L.length ≤ t.mask)
    (once : (L.map Prod.fst).Nodup) (keys : ∀ p ∈ L, knd.is s.heap p.1 p.2) (led : w.params.followText "set-order" = true ∨ t.led = true) (few : L.length < 64) {want M : Nat}
    (size : SetTable.sizeAbove want = M + 1) (ok : MaskOk M) (room : L.length * 5 < M * 3) {Q : Unit → Shared → Prop}
    (q : ∀ h' L' es' ep' t', Heap.SameBut a s.heap h' → Pool knd h' a L' es' ep' t' → L'.Perm L → Q () { s with heap := h' }) : wpAny (model P w) A (setRelay a want) Q E s := by
  have len := rows_len rows
  have z := tab.sz
  rw [List.length_map] at z
  have big : M + 1 ≤ 128 := by rcases ok with e | e | e <;> omega
  obtain ⟨t', order, e, hp, T, em, el, -, -⟩ := relaid_ok t (hs := es.map (·.1)) (wanted := want) (M := M) (by rw [size]; rfl) ok (by rw [Array.size_map, len]; omega)
  rw [Array.size_map, len] at hp
  obtain ⟨L2, r1, r2, r3⟩ := rows_in_order rows hp
  rw [← r3] at T
  have len2 : (order.filterMap (es[·]?)).size = es.size := by rw [rows_len r1, r2.length_eq, len]
  rw [setRelay_eq]
  refine wpAny_bind (wpAny_setState_of ho hd (by rw [len]; exact fits_of z tab.dm le) ?_)
  dsimp only
  refine wp_if_neg (by rw [size, sizeLine_eq]; omega) ?_
  try refine wpAny_bind (wpAny_pure ?_)
  rw [e]
  dsimp only
  refine wpAny_bind (wp_if_neg (by rw [len2]; simp) ?_)
  try refine wpAny_bind (wpAny_pure ?_)
  refine wpAny_pure ?_
  dsimp only
  refine wpAny_storeSet_of ho hd ?_ (by rw [len2, len, sizeLine_eq]; omega)
  have sb : Heap.SameBut a s.heap (s.heap.update a (Obj.putSet (order.filterMap (es[·]?)) t')) := Heap.SameBut.update ..
  exact q _ L2 _ (ep + 1) t' sb ⟨⟨_, store_at ho hd, ⟨hex.1, hex.2.1, hex.2.2⟩, rfl⟩, r1, T, (r2.map _).nodup_iff.mpr once, fun p hm => stay_set F (keys p (r2.mem_iff.mp hm)) ho hd sb, by rw [el]; exact led, by rw [r2.length_eq, em]; exact room, by rw [r2.length_eq]; exact few⟩ r2
/-- a key is asked to be in -/
theorem drop_in (F : Fit knd) (R : Pool knd s.heap a L es ep t) {x : Addr} {k : K} (hx : knd.is s.heap k x) (hu : knd.room A) (few : k ∉ L.map Prod.fst → L.length + 1 < 64) {Q : Bool → Shared → Prop}
    (q : ∀ b h' L' es' ep' t', Heap.SameBut a s.heap h' → Pool knd h' a L' es' ep' t' → (k ∈ L.map Prod.fst ∧ L' = L ∨ k ∉ L.map Prod.fst ∧ L'.Perm ((k, x) :: L)) → Q b { s with heap := h' }) :
    wpAny (model P w) A (setAddHashed a (.ref x) (knd.hash k)) Q E s := by
  obtain ⟨o, ho, hex, hd⟩ := R.obj
  have len := rows_len R.rows
  have room := R.room
  unfold setAddHashed
  refine wpAny_holding ?_
  rw [show (100000 : Nat) = 99999 + 1 from rfl, setAddHashedIn_succ]
  refine wpAny_bind (wpAny_setState_of ho hd R.fits ?_)
  dsimp only
  refine wp_if_neg (by simp [byScan, Value.scannable]) ?_
  try refine wpAny_bind (wpAny_pure ?_)
  refine wpAny_bind (seek F R hx hu (fun hm => ?_) fun N hm free full => ?_)
  · exact wpAny_pure (q false s.heap L es ep t (Heap.SameBut.refl a s.heap) R (.inl ⟨hm, rfl⟩))
  dsimp only
  refine wpAny_bind (wpAny_setState_of ho hd R.fits ?_)
  dsimp only
  have few := few hm
  obtain ⟨e1, e2, T, em, el, -, -, -, ef⟩ := R.tab.put free full
  generalize t.put (way t.mask (knd.hash k) N) = pt at e1 T em el ef ⊢
  obtain ⟨t1, at_⟩ := pt
  dsimp only at e1 T em el ef ⊢
  subst e1
  generalize SetTable.below t.place (way t.mask (knd.hash k) N) = at_ at e2 T ⊢
  have pm := put_perm L at_ (k, x)
  have hh : (L.take at_ ++ (k, x) :: L.drop at_).map (fun p => knd.hash p.1) = (L.map fun p => knd.hash p.1).take at_ ++ knd.hash k :: (L.map fun p => knd.hash p.1).drop at_ := by
    rw [List.map_append, List.map_cons, List.map_take, List.map_drop]
  rw [← hh] at T
  have rows1 : (SetTable.insertAt es at_ (knd.hash k, Value.ref x)).toList = (L.take at_ ++ (k, x) :: L.drop at_).map (row knd) := by
    rw [SetTable.toList_insertAt, R.rows, List.map_append, List.map_cons, List.map_take, List.map_drop]
    rfl
  generalize SetTable.insertAt es at_ (knd.hash k, Value.ref x) = es1 at rows1 ⊢
  generalize L.take at_ ++ (k, x) :: L.drop at_ = L1 at pm T rows1
  have len1 : L1.length = L.length + 1 := pm.length_eq
  have once1 : (L1.map Prod.fst).Nodup := by
    refine (pm.map Prod.fst).nodup_iff.mpr ?_
    rw [List.map_cons]
    exact List.nodup_cons.mpr ⟨hm, R.once⟩
  -- whatever the table says of its hashes
  have tail : ∀ t2 : SetTable, t2.place = t1.place → t2.dummies = t1.dummies → t2.mask = t1.mask → t2.led = t1.led →
      wpAny (model P w) A (do
        storeSet a es1 t2
        if (!false && t2.tooFull) = true then
          setRelay a (SetTable.grown (es.size + 1))
        return true) Q E s := fun t2 g1 g2 g3 g4 => by
    have T2 : TabOk t2 (L1.map fun p => knd.hash p.1) := ⟨by rw [g1]; exact T.ris, by rw [g2]; exact T.dm, by rw [g1]; exact T.sz, by rw [g3]; exact T.mok, by rw [g1, g3]; exact T.bd, by rw [g1, g3]; exact T.reach⟩
    have fill2 : t2.fill = L.length + 1 := by
      rw [List.length_map] at ef
      rw [← ef]
      unfold SetTable.fill
      rw [g1, g2]
    have m2 : t2.mask = t.mask := g3.trans em
    have led2 : w.params.followText "set-order" = true ∨ t2.led = true := by rw [g4, el]; exact R.led
    refine wpAny_bind (wpAny_storeSet_of ho hd ?_ (by rw [rows_len rows1, len1, sizeLine_eq]; omega))
    have sb : Heap.SameBut a s.heap (s.heap.update a (Obj.putSet es1 t2)) := Heap.SameBut.update ..
    have ho1 := store_at (es' := es1) (t' := t2) ho hd
    generalize s.heap.update a (Obj.putSet es1 t2) = h1 at sb ho1 ⊢
    have keys1 : ∀ p ∈ L1, knd.is h1 p.1 p.2 := fun p hp => by
      rcases List.mem_cons.mp (pm.mem_iff.mp hp) with e | hp
      · rw [e]; exact stay_set F hx ho hd sb
      · exact stay_set F (R.keys p hp) ho hd sb
    cases full2 : t2.tooFull with
    | false =>
      try simp only [Bool.not_false, Bool.and_false, Bool.false_eq_true, if_false]
      try refine wpAny_bind (wpAny_pure ?_)
      have nf := full2
      unfold SetTable.tooFull at nf
      rw [decide_eq_false_iff_not, fill2] at nf
      exact wpAny_pure (q true h1 L1 es1 (ep + 1) t2 sb ⟨⟨_, ho1, ⟨hex.1, hex.2.1, hex.2.2⟩, rfl⟩, rows1, T2, once1, keys1, led2, by rw [len1]; omega, by rw [len1]; exact few⟩ (.inr ⟨hm, pm⟩))
    | true =>
      simp only [Bool.not_false, Bool.and_true, if_true]
      have nf := full2
      unfold SetTable.tooFull at nf
      rw [decide_eq_true_eq, fill2] at nf
      have grow : ∀ M, SetTable.sizeAbove (SetTable.grown (es.size + 1)) = M + 1 → MaskOk M → L1.length * 5 < M * 3 → wpAny (model P w) A (setRelay a (SetTable.grown (es.size + 1))) (fun _ s' => wpAny (model P w) A (pure true) Q E s') E { s with heap := h1 } := fun M b1 b2 b3 =>
        widen (s := { s with heap := h1 }) F ho1 ⟨hex.1, hex.2.1, hex.2.2⟩ rfl rows1 T2 (by rw [len1, m2]; rcases R.tab.mok with e | e | e <;> omega) once1 keys1 led2 (by rw [len1]; exact few) b1 b2 b3 fun h2 L2 es2 ep2 t2 sb2 R2 pm2 =>
          wpAny_pure (q true h2 L2 es2 ep2 t2 (sb.trans sb2) R2 (.inr ⟨hm, pm2.trans pm⟩))
      refine wpAny_bind ?_
      rcases R.tab.mok with e | e | e
      · have n : L.length = 4 := by rw [m2, e] at nf; rw [e] at room; omega
        exact grow 31 (by rw [len, n, size_20]) (.inr (.inl rfl)) (by rw [len1]; omega)
      · have n : L.length = 18 := by rw [m2, e] at nf; rw [e] at room; omega
        exact grow 127 (by rw [len, n, size_76]) (.inr (.inr rfl)) (by rw [len1]; omega)
      · exfalso
        rw [m2, e] at nf
        omega
  cases hpl : t1.plain with
  | false =>
    simp only [Bool.false_eq_true, if_false]
    try refine wpAny_bind (wpAny_pure ?_)
    simp only [if_true]
    exact tail t1 rfl rfl rfl rfl
  | true =>
    simp only [if_true]
    refine wpAny_bind (F.byv hx fun b => ?_)
    cases b with
    | true => simp only [if_true]; exact tail t1 rfl rfl rfl rfl
    | false => simp only [Bool.false_eq_true, if_false]; exact tail _ rfl rfl rfl rfl
end
end Mr
end
section
/-! set(xs), xs a list of tuples -/
namespace Mr
open PySem PySem.Spec PyProof.Rows L2
section
variable {K : Type}
/-- the pool's members after some of the items -/
def From (done : List (K × Addr)) (L : List (K × Addr)) : Prop := (∀ p ∈ L, p ∈ done) ∧ ∀ p ∈ done, p.1 ∈ L.map Prod.fst
theorem From.again {done L : List (K × Addr)} {p : K × Addr} (f : From done L) (m : p.1 ∈ L.map Prod.fst) : From (done ++ [p]) L :=
  ⟨fun r hr => List.mem_append_left _ (f.1 r hr), fun r hr => by
    rcases List.mem_append.mp hr with h | h
    · exact f.2 r h
    · rw [List.mem_singleton.mp h]; exact m⟩
theorem From.add {done L M : List (K × Addr)} {p : K × Addr} (f : From done L) (m : M.Perm (p :: L)) : From (done ++ [p]) M :=
  ⟨fun r hr => by
    rcases List.mem_cons.mp (m.mem_iff.mp hr) with h | h
    · rw [h]; exact List.mem_append_right _ List.mem_cons_self
    · exact List.mem_append_left _ (f.1 r h), fun r hr => by
    refine (m.map Prod.fst).mem_iff.mpr ?_
    rw [List.map_cons]
    rcases List.mem_append.mp hr with h | h
    · exact List.mem_cons_of_mem _ (f.2 r h)
    · rw [List.mem_singleton.mp h]; exact List.mem_cons_self⟩
end
section
variable {P : Program} {w : World} {K : Type} [DecidableEq K] {knd : HeapKind P w K} {A : Around} {E : Value → Shared → Prop} {s : Shared}
theorem Pool.stay {h h' : Heap} {a : Addr} {L : List (K × Addr)} {es : Array (Int × Value)} {ep : Nat} {t : SetTable} (R : Pool knd h a L es ep t) (ha : ∀ o, h.get? a = some o → h'.get? a = some o) (hk : ∀ p ∈ L, knd.is h' p.1 p.2) : Pool knd h' a L es ep t :=
  let ⟨o, ho, z⟩ := R.obj
  ⟨⟨o, ha o ho, z⟩, R.rows, R.tab, R.once, hk, R.led, R.room, R.few⟩
abbrev emptyTable (w : World) : SetTable := .fresh 0 0 (!w.params.followText "set-order")
abbrev emptySet (w : World) : Obj := { cls := .type "set", dict := none, data := .set #[] 0 (emptyTable w) }
theorem Pool.empty {h : Heap} {a : Addr} (ho : h.get? a = some (emptySet w)) : Pool knd h a [] #[] 0 (emptyTable w) where
  obj := ⟨_, ho, ⟨rfl, rfl, rfl⟩, rfl⟩
  rows := rfl
  tab := { ris := List.Pairwise.nil, dm := rfl, sz := rfl, mok := .inl rfl, bd := fun x hx => (by cases hx), reach := fun i h j hi => (by simp at hi) }
  once := List.nodup_nil
  keys := fun p hp => (by cases hp)
  led := by
    cases e : w.params.followText "set-order" with
    | true => exact .inl rfl
    | false => right; show (!w.params.followText "set-order") = true; rw [e]; rfl
  room := show 0 * 5 < 7 * 3 by decide
  few := show 0 < 64 by decide
/-- the items laid in one by one -/
theorem fill_pool (fk : Fit knd) {I : Addr} {fp wr : List Addr} {G : Array GenState → Array GenState → Prop} {n : Nat} {Pv : Nat → Value → Prop} {Z : Nat → Shared → Prop} {R : Result → Shared → Prop}
    (W : WalksS P w A.in1 I fp wr G n Pv Z) (T : Addr) (apart : T ∉ fp) (ks : List (K × Addr)) (hn : n = ks.length) (few : ∀ M : List K, M.Nodup → (∀ k ∈ M, k ∈ ks.map Prod.fst) → M.length < 64)
    (item : ∀ i v, Pv i v → ∃ p, ks[i]? = some p ∧ v = .ref p.2) (old : Heap) (hk : ∀ p ∈ ks, knd.is old p.1 p.2) (new : old.get? T = none) (neww : ∀ b ∈ wr, old.get? b = none) (hu : knd.room A.in1) :
    ∀ (left i : Nat) (s : Shared), i + left = n → Z i s → (∀ b o, old.get? b = some o → s.heap.get? b = some o) → (∃ L es ep t, Pool knd s.heap T L es ep t ∧ From (ks.take i) L) →
      (∀ z L es ep t, Moved (T :: wr) G s z → Pool knd z.heap T L es ep t → From ks L → (∀ b o, old.get? b = some o → z.heap.get? b = some o) → R (.ok (.ret .none)) z) →
      codeAny (model P w) A (.builtin "set.update.loop" ⟨[.ref T, .ref I], []⟩) R s := by
  have offw : T ∉ wr := fun h => apart (W.sub _ h)
  have wider : ∀ b ∈ wr, b ∈ T :: wr := fun b hb => List.mem_cons_of_mem _ hb
  have olds : ∀ {s z : Shared}, Moved wr G s z → (∀ b o, old.get? b = some o → s.heap.get? b = some o) → ∀ b o, old.get? b = some o → z.heap.get? b = some o := fun m k b o e =>
    m.heap b o (fun hb => nomatch (neww b hb).symm.trans e) (k b o e)
  intro left
  induction left with
  | zero =>
    intro i s hi hst keep ⟨L, es, ep, t, pool, f⟩ q
    have e : i = n := hi
    subst e
    rw [hn, List.take_length] at f
    refine codeAny_builtin F.entry_set_update_loop ?_
    rw [Around.under_plainId F.plain_set_update_loop _]
    show wpAny _ A.in1 (pyNext (.ref I) >>= _) _ _ s
    refine wpAny_bind (W.done s _ _ hst fun z m => ?_)
    have keep' := olds m keep
    show wpAny _ A.in1 (ret Value.none) _ _ z
    exact wpAny_pure (q z L es ep t (m.mono wider) (pool.stay (fun o e => m.heap T o offw e) fun p hp => Mr.stay fk (hk p (f.1 p hp)) keep') f keep')
  | succ left ih =>
    intro i s hi hst keep ⟨L, es, ep, t, pool, f⟩ q
    have lt : i < n := by omega
    refine codeAny_builtin F.entry_set_update_loop ?_
    rw [Around.under_plainId F.plain_set_update_loop _]
    show wpAny _ A.in1 (pyNext (.ref I) >>= _) _ _ s
    refine wpAny_bind (W.item i s _ _ lt hst fun v z hP hst' m => ?_)
    obtain ⟨p, hp, rfl⟩ := item i v hP
    have keep' := olds m keep
    have mem : p ∈ ks := List.mem_of_getElem? hp
    have inks : ∀ r ∈ L, r ∈ ks := fun r hr => List.mem_of_mem_take (f.1 r hr)
    have pool' : Pool knd z.heap T L es ep t := pool.stay (fun o e => m.heap T o offw e) fun r hr => Mr.stay fk (hk r (inks r hr)) keep'
    have hx : knd.is z.heap p.1 p.2 := Mr.stay fk (hk p mem) keep'
    show wpAny _ A.in1 (holding [Value.ref p.2] (setAdd T (.ref p.2)) >>= _) _ _ z
    refine wpAny_bind (wpAny_holding ?_)
    unfold setAdd
    refine wpAny_holding (wpAny_bind (knd.pyHash hu hx ?_))
    refine drop_in (s := { z with toks := z.toks + knd.draws p.1 }) fk pool' hx hu (fun hm => ?_) fun b h' L' es' ep' t' sb pool2 c => ?_
    · have y := few (p.1 :: L.map Prod.fst) (List.nodup_cons.mpr ⟨hm, pool.once⟩) fun k hk' => by
        rcases List.mem_cons.mp hk' with e | e
        · rw [e]; exact List.mem_map.mpr ⟨p, mem, rfl⟩
        · obtain ⟨r, hr, e⟩ := List.mem_map.mp e
          exact List.mem_map.mpr ⟨r, inks r hr, e⟩
      rw [List.length_cons, List.length_map] at y
      exact y
    have f' : From (ks.take (i + 1)) L' := by
      rw [List.take_succ, hp]
      rcases c with ⟨hm, e⟩ | ⟨_, e⟩
      · rw [e]; exact f.again hm
      · exact f.add e
    have keep2 : ∀ b o, old.get? b = some o → h'.get? b = some o := fun b o e => (sb.2 b fun y => by rw [y, new] at e; cases e).trans (keep' b o e)
    have at_ : ∀ b o, b ≠ T → z.heap.get? b = some o → h'.get? b = some o := fun b o hb e => (sb.2 b hb).trans e
    refine wpAny_pure ⟨plainId_quiet F.plain_set_update_loop _, ih (i + 1) _ (by omega) (W.frame _ z _ _ hst' (Nat.le_add_right _ _) fun b hb o e => at_ b o (fun y => apart (y ▸ hb)) e) keep2 ⟨L', es', ep', t', pool2, f'⟩ fun y M es2 ep2 t2 m2 pool3 f2 keep3 => ?_⟩
    exact q y M es2 ep2 t2 (Moved.trans W.gtrans ((m.mono wider).then_heap (Nat.le_add_right _ _) fun b o hb e => at_ b o (fun y => hb (by rw [y]; exact List.mem_cons_self)) e) m2) pool3 f2 keep3
end
end Mr
end
section
/-! the call set(xs) -/
namespace Mr
open PySem PySem.Spec PyProof.Rows L2
section
variable {P : Program} {w : World} {K : Type} [DecidableEq K] {knd : HeapKind P w K} {A : Around} {E : Value → Shared → Prop} {s : Shared}
/-- what set.__init__ leaves, seen from the state s before the call -/
def Laid (knd : HeapKind P w K) (s : Shared) (ks : List (K × Addr)) (z : Shared) : Prop :=
  ∃ h' tk L es ep t, z = { s with heap := h', toks := tk } ∧ Pool knd h' s.heap.objs.size L es ep t ∧ From ks L ∧ ∀ b o, s.heap.get? b = some o → h'.get? b = some o
theorem none_past {h : Heap} {b : Addr} (hb : h.objs.size ≤ b) : h.get? b = none := by
  cases q : h.get? b with
  | none => rfl
  | some o => exact absurd (Nat.lt_of_lt_of_le (Heap.lt_size q) hb) (Nat.lt_irrefl _)
set_option maxRecDepth 100000 in
set_option maxHeartbeats 3200000 in
theorem init_pool (fk : Fit knd) {l : Addr} {its : Array Value} {ks : List (K × Addr)} (hh : A.handled = none) (hl : s.heap.IsList l its) (hit : its.toList = ks.map fun p => Value.ref p.2) (hk : ∀ p ∈ ks, knd.is s.heap p.1 p.2)
    (few : ∀ M : List K, M.Nodup → (∀ k ∈ M, k ∈ ks.map Prod.fst) → M.length < 64) (hu : ∀ B : Around, B.units ≤ A.units + 8 → knd.room B) :
    wpAny (model P w) A.in1 (Builtin.«set.__init__» ⟨[.ref s.heap.objs.size, .ref l], []⟩) (fun fin z => match fin with | .done f => wants (fun r z => r = .none ∧ Laid knd s ks z) E (.ok f) z | .again c => c.quiet = true ∧ codeAny (model P w) A c (wants (fun r z => r = .none ∧ Laid knd s ks z) E) z) (fun e z => wants (fun r z => r = .none ∧ Laid knd s ks z) E (.error e) z)
      { s with heap := s.heap.push (emptySet w) } := by
  have hS : (s.heap.push (emptySet w)).get? s.heap.objs.size = some (emptySet w) := Heap.get?_push_size _ rfl
  have hT : Shared.TypeIs { s with heap := s.heap.push (emptySet w) } (.ref s.heap.objs.size) "set" := ⟨_, hS, rfl⟩
  have hn : its.size = ks.length := by rw [← Array.length_toList, hit, List.length_map]
  obtain ⟨⟨ocls, odict, odata, oslots⟩, hol, hcl, nl, hdl⟩ := hl
  simp only at hcl hdl
  subst hcl; subst hdl
  have hol' : (s.heap.push (emptySet w)).get? l = some { cls := .type "list", dict := odict, data := .seq its nl, slots := oslots } := Heap.get?_push_of_some _ hol
  have hsls := F.sub_list_set
  have hslf := F.sub_list_frozenset
  have hne : (Value.type "list" == Value.type "dict") = false := by decide
  have hl1 : (s.heap.push (emptySet w)).IsList l its := ⟨_, hol', rfl, nl, rfl⟩
  unfold Builtin.«set.__init__» noKeywords Builtin.Frozenset.updateFrom
  generalize hPI : pyIter = PI
  wp_walk
  subst hPI
  refine wpAny_pyIter_list hl1 ?_
  refine wpAny_bind (wpAny_runValue ?_)
  have lt : l < s.heap.objs.size := Heap.lt_size hol
  have one : (s.heap.push (emptySet w)).objs.size = s.heap.objs.size + 1 := Heap.size_push ..
  have offI : l ≠ (s.heap.push (emptySet w)).objs.size := by rw [one]; exact Nat.ne_of_lt (Nat.lt_succ_of_lt lt)
  have offS : s.heap.objs.size ∉ [(s.heap.push (emptySet w)).objs.size, l] := by
    rw [one, List.mem_cons, List.mem_singleton, not_or]
    exact ⟨Nat.ne_of_lt (Nat.lt_succ_self _), Nat.ne_of_gt lt⟩
  refine fill_pool fk ((Walks.list (by simp [hh]) _ l offI its).toS) s.heap.objs.size offS ks hn few (fun i v hv => ?_) s.heap hk (none_past (Nat.le_refl _)) (fun b hb => none_past (by rw [List.mem_singleton.mp hb, one]; exact Nat.le_succ _)) (hu _ (by simp only [Around.in1]; omega))
    its.size 0 _ (Nat.zero_add _) ⟨⟨_, Heap.get?_push_size _ rfl, rfl, rfl⟩, (hl1.push _)⟩ (fun b o e => Heap.get?_push_of_some _ (Heap.get?_push_of_some _ e))
    ?start fun z L es ep t m pool f keep => ?_
  case start =>
    have hS2 : ((s.heap.push (emptySet w)).push { cls := .type "list_iterator", data := .fields #[.ref l, .int 0 0] }).get? s.heap.objs.size = some (emptySet w) := Heap.get?_push_of_some _ hS
    exact ⟨[], #[], 0, _, Pool.empty hS2, (fun p hp => nomatch hp), (fun p hp => nomatch hp)⟩
  · have y : its.toList[i]? = some v := by rw [Array.getElem?_toList]; exact hv
    rw [hit, List.getElem?_map] at y
    cases hq : ks[i]? with
    | none => rw [hq] at y; cases y
    | some p => rw [hq] at y; exact ⟨p, rfl, (Option.some.inj y).symm⟩
  · obtain ⟨h', g', d', tk', os'⟩ := z
    have eg : g' = s.gens := m.gens
    have ed : d' = s.drawn := m.drawn
    have eo : os' = s.os := m.os
    subst eg; subst ed; subst eo
    refine wpAny_pure ?_
    show wpAny _ _ (ret Value.none) _ _ _
    exact wpAny_pure ⟨rfl, h', tk', L, es, ep, t, rfl, pool, f, keep⟩
set_option maxRecDepth 100000 in
set_option maxHeartbeats 3200000 in
theorem call_pool (fk : Fit knd) {l : Addr} {its : Array Value} {ks : List (K × Addr)} {Q : Value → Shared → Prop} (hh : A.handled = none) (hl : s.heap.IsList l its) (hit : its.toList = ks.map fun p => Value.ref p.2) (hk : ∀ p ∈ ks, knd.is s.heap p.1 p.2)
    (few : ∀ M : List K, M.Nodup → (∀ k ∈ M, k ∈ ks.map Prod.fst) → M.length < 64) (hu : ∀ B : Around, B.units ≤ A.units + 9 → knd.room B) (q : ∀ z, Laid knd s ks z → Q (.ref s.heap.objs.size) z) :
    wpAny (model P w) A (call (.type "set") [.ref l]) Q E s := by
  obtain ⟨c, tl, hmro⟩ := F.called_set.mro
  have hmade := F.called_set.made
  have hsub := F.called_set.sub
  refine wpAny_call (codeAny_of_tree ?_)
  show wpAny _ _ (callAny (.type "set") _) _ _ _
  refine wpAny_pure ⟨Code.quiet_builtin _ (by decide +kernel), codeAny_builtin F.entry_type_call ?_⟩
  rw [Around.under_plain (weight_type_call_type "set" [.ref l] []) rfl]
  have h1 := F.called_set.notType
  have h2 := F.called_set.canCreate
  have hct := F.typeCall_set_1 (.ref l)
  repeat (any_goals (first | assumption | wp_step))
  refine codeAny_mono (code_set_led1 (.ref l) (E := E) (Q₁ := fun v z => v = .ref s.heap.objs.size ∧ z = { s with heap := s.heap.push (emptySet w) }) ⟨rfl, rfl⟩) fun r z hr => ?_
  cases r with
  | error e => exact hr
  | ok fl =>
    cases fl with
    | ret obj =>
      obtain ⟨rfl, rfl⟩ := hr
      have hS : (s.heap.push (emptySet w)).get? s.heap.objs.size = some (emptySet w) := Heap.get?_push_size _ rfl
      have hT : Shared.TypeIs { s with heap := s.heap.push (emptySet w) } (.ref s.heap.objs.size) "set" := ⟨_, hS, rfl⟩
      have hli := F.called_set.init.lookup
      have hbi := F.called_set.init.bind (.ref s.heap.objs.size)
      repeat (any_goals (first | assumption | wp_step))
      refine codeAny_mono (codeAny_call_builtin (R := wants (fun r z => r = .none ∧ Laid knd s ks z) E) F.called_set.init.plain F.entry_set_init (check_set_init_1 hT (init_pool fk (by simp [hh]) hl hit hk few fun B hB => hu B (Nat.le_trans hB (by simp only [Around.in1]; omega))))) fun r2 z2 hr2 => ?_
      cases r2 with
      | error e => exact hr2
      | ok fl2 =>
        cases fl2 with
        | ret r =>
          obtain ⟨rfl, laid⟩ := hr2
          repeat (any_goals (first | assumption | wp_step))
          exact q _ laid
        | _ => exact hr2.elim
    | _ => exact hr.elim
end
end Mr
end
section
/-! alike data are ordered strictly; the sorted list is one -/
namespace Mr
open PySem PySem.W PyProof.Rows
mutual
theorem toks_inj : ∀ (x y : PyData), alike x y = true → ∀ a b, keyToks x ++ a = keyToks y ++ b → x = y ∧ a = b
  | .none, y, h, a, b, e => by cases y <;> simp_all [alike, keyToks]
  | .bool p, y, h, a, b, e => by
    cases y with
    | bool q => cases p <;> cases q <;> simp_all [keyToks]
    | _ => simp [alike] at h
  | .int p, y, h, a, b, e => by cases y <;> simp_all [alike, keyToks]
  | .str p, y, h, a, b, e => by
    cases y with
    | str q =>
      simp only [keyToks, List.cons_append, List.nil_append, List.cons.injEq, Sum.inr.injEq] at e
      exact ⟨by rw [str_of_cps e.1], e.2⟩
    | _ => simp [alike] at h
  | .list xs, y, h, a, b, e => by
    cases y with
    | list ys =>
      simp only [alike] at h
      simp only [keyToks] at e
      obtain ⟨h1, h2⟩ := toksAll_inj xs ys h a b e
      exact ⟨by rw [h1], h2⟩
    | _ => simp [alike] at h
  | .tuple xs, y, h, a, b, e => by
    cases y with
    | tuple ys =>
      simp only [alike] at h
      simp only [keyToks] at e
      obtain ⟨h1, h2⟩ := toksAll_inj xs ys h a b e
      exact ⟨by rw [h1], h2⟩
    | _ => simp [alike] at h
  | .dict _, y, h, a, b, e => by simp [alike] at h
theorem toksAll_inj : ∀ (xs ys : List PyData), alikeAll xs ys = true → ∀ a b, keyToksAll xs ++ a = keyToksAll ys ++ b → xs = ys ∧ a = b
  | [], [], _, a, b, e => by simp [keyToksAll] at e; exact ⟨rfl, e⟩
  | [], y :: ys, _, a, b, e => by simp [keyToksAll] at e
  | x :: xs, [], _, a, b, e => by simp [keyToksAll] at e
  | x :: xs, y :: ys, h, a, b, e => by
    simp only [alikeAll, Bool.and_eq_true] at h
    simp only [keyToksAll, List.cons_append, List.append_assoc, List.cons.injEq, true_and] at e
    obtain ⟨h1, h2⟩ := toks_inj x y h.1 _ _ e
    obtain ⟨h3, h4⟩ := toksAll_inj xs ys h.2 a b h2
    exact ⟨by rw [h1, h3], h4⟩
end
theorem le_def (a b : PyData) : dataLe false id a b = !dataLt b a := rfl
theorem le_anti {a b : PyData} (h : alike a b = true) (h1 : dataLe false id a b = true) (h2 : dataLe false id b a = true) : a = b := by
  rw [le_def, Bool.not_eq_true'] at h1 h2
  have e := lex_total (O := itemOrd) _ _ h1 h2
  exact (toks_inj a b h [] [] (by rw [List.append_nil, List.append_nil]; exact e.symm)).1
theorem le_trans' (a b c : PyData) (h1 : dataLe false id a b = true) (h2 : dataLe false id b c = true) : dataLe false id a c = true := by
  rw [le_def, Bool.not_eq_true'] at *
  cases q : dataLt c a with
  | false => rfl
  | true =>
    rcases lex_negTrans (O := itemOrd) (keyToks c) (keyToks b) (keyToks a) q with z | z
    · exact absurd (z.symm.trans h2) (by decide)
    · exact absurd (z.symm.trans h1) (by decide)
theorem le_total' (a b : PyData) : (dataLe false id a b || dataLe false id b a) = true := by
  rw [le_def, le_def]
  cases p : dataLt b a with
  | false => rfl
  | true =>
    cases q : dataLt a b with
    | false => rfl
    | true =>
      have z := lex_trans (O := itemOrd) _ _ _ p q
      rw [lex_irrefl] at z
      cases z
theorem srt_one {l m : List PyData} (p : l.Perm m) (al : ∀ a ∈ l, ∀ b ∈ l, alike a b = true) : l.mergeSort (dataLe false id) = m.mergeSort (dataLe false id) := by
  have s1 := List.pairwise_mergeSort le_trans' le_total' l
  have s2 := List.pairwise_mergeSort le_trans' le_total' m
  have pp : (l.mergeSort (dataLe false id)).Perm (m.mergeSort (dataLe false id)) := (List.mergeSort_perm _ _).trans (p.trans (List.mergeSort_perm _ _).symm)
  refine List.Perm.eq_of_pairwise (le := fun a b => dataLe false id a b = true) (fun a b ha hb h1 h2 => ?_) s1 s2 pp
  exact le_anti (al a (List.mem_mergeSort.mp ha) b (p.mem_iff.mpr (List.mem_mergeSort.mp hb))) h1 h2
end Mr
end
section
set_option autoImplicit false
set_option linter.all false
/-! Mp: a small Python on data. Values are trees (PyData) or cells of a store; the interpreter is a plain function. -/
namespace Mp
open PySem
/-- a value: data that never changes, a cell of the store, the script -/
inductive Val where
  | d (x : PyData) | c (i : Nat) | scr (ns : List Int)
/-- what a cell holds -/
inductive Ob where
  | l (xs : List PyData) | m (kvs : List (PyData × PyData))
abbrev Store := List (Option Ob)
/-- an end: a value, an exception, or no word -/
inductive R (α : Type) where
  | ok (a : α) (S : Store) | ex (k : Nat) (v : PyData) (S : Store) | no
def M (α : Type) := Store → R α
def ret {α : Type} (a : α) : M α := fun S => .ok a S
def no {α : Type} : M α := fun _ => .no
def bnd {α β : Type} (m : M α) (f : α → M β) : M β := fun S => match m S with
  | .ok a S' => f a S'
  | .ex k v S' => .ex k v S'
  | .no => .no
abbrev Env := List (Option Val)

/-! ### the AST -/
inductive BinK where | add | sub | mul | fdiv | mod | pow | band | bor | shl
inductive CmpK where | eq | ne | lt | le | gt | ge | is | isnot | «in» | notin
/-- built-in functions of one argument -/
inductive B1 where | len | repr | int | str | sorted | list | tuple | dict | sum | max | min | sset | lset | svals | bitlen | neg
/-- .. of two -/
inductive B2 where | max | min | sum
/-- methods -/
inductive M0 where | pop | values | items | bitlen | upper | lower | isalnum | isupper
inductive M1 where | append | pop | index | join | find | count | split | get | extend
inductive M2 where | get | replace | setdefault
inductive Ty where | tstr | tint | tbool | ttuple | tlist | tdict
/-- a target: a name's slot, a tuple of targets -/
inductive Tg where
  | nm (i : Nat) | tp (is : List Nat)
mutual
inductive Ex where
  | var (i : Nat) | con (x : PyData) | glb (k : Nat)
  | tup (es : Exs) | lst (es : Exs)
  | bin (o : BinK) (a b : Ex) | cmp (o : CmpK) (a b : Ex) | chn (o o' : CmpK) (a b c : Ex)
  | and (es : Exs) | or (es : Exs) | not (a : Ex) | ite (t a b : Ex)
  | ix (a b : Ex) | slf (a b : Ex) | slt (a b : Ex) | slb (a b c : Ex) | rev (a : Ex)
  | call (f : Nat) (es : Exs) | callk (f : Nat) (es : Exs) (perm : List Nat)
  | b1 (b : B1) (a : Ex) | b2 (b : B2) (a c : Ex) | isi (a : Ex) (t : Ty)
  | m0 (m : M0) (o : Ex) | m1 (m : M1) (o a : Ex) | m2 (m : M2) (o a b : Ex)
  | lc (elt : Ex) (t : Tg) (it : It) (cond : Exs) (own : List Nat)
  | lc2 (elt : Ex) (t : Tg) (it : It) (cond : Exs) (t2 : Tg) (it2 : It) (cond2 : Exs) (own own2 : List Nat)
  | dc (k v : Ex) (t : Tg) (it : It) (cond : Exs) (own : List Nat)
  | dd (es : Exs)
  | mk (e : Ex)
inductive Exs where | nil | cons (e : Ex) (es : Exs)
/-- what is walked -/
inductive It where
  | val (e : Ex) | rg1 (a : Ex) | rg2 (a b : Ex) | rg3 (a b c : Ex) | en (e : Ex) | zp (a b : Ex) | rv (e : Ex) | itm (e : Ex) | vls (e : Ex)
end
mutual
inductive Sm where
  | asg (t : Tg) (e : Ex) | par (is : List Nat) (es : Exs) | setI (o i e : Ex) | aug (i : Nat) (o : BinK) (e : Ex) | ex (e : Ex)
  | ifs (c : Ex) (a b : Sms) | whl (c : Ex) (b : Sms) | for_ (t : Tg) (it : It) (b : Sms)
  | rtn (e : Ex) | brk | cnt | pass | rse (k : Nat) (e : Ex)
inductive Sms where | nil | cons (s : Sm) (ss : Sms)
end
structure Fn where
  np : Nat
  ns : Nat
  body : Sms
  raw : Bool
structure Tab where
  fns : List Fn
  gl : List PyData

mutual
/-- the very same data -/
def beqD : PyData → PyData → Bool
  | .none, .none => true
  | .bool a, .bool b => a == b
  | .int a, .int b => a == b
  | .str a, .str b => a == b
  | .list a, .list b => beqL a b
  | .tuple a, .tuple b => beqL a b
  | .dict a, .dict b => beqK a b
  | _, _ => false
def beqL : List PyData → List PyData → Bool
  | [], [] => true
  | x :: xs, y :: ys => beqD x y && beqL xs ys
  | _, _ => false
def beqK : List (PyData × PyData) → List (PyData × PyData) → Bool
  | [], [] => true
  | (a, b) :: xs, (c, d) :: ys => beqD a c && beqD b d && beqK xs ys
  | _, _ => false
end
/-! ### values -/
def peek : Val → M PyData
  | .d x => ret x
  | .c i => fun S => match S[i]? with
    | some (some (.l xs)) => .ok (.list xs) S
    | some (some (.m kvs)) => .ok (.dict kvs) S
    | _ => .no
  | .scr _ => no
/-- as data that changes no more -/
def own : Val → M PyData
  | .d x => ret x
  | .c i => fun S => match S[i]? with
    | some (some (.l xs)) => .ok (.list xs) (S.set i none)
    | some (some (.m kvs)) => .ok (.dict kvs) (S.set i none)
    | _ => .no
  | .scr _ => no
def alloc (o : Ob) : M Val := fun S => .ok (.c S.length) (S ++ [some o])
def setC (i : Nat) (o : Ob) : M Unit := fun S => .ok () (S.set i (some o))
def guard (b : Bool) : M Unit := fun S => if b = true then .ok () S else .no
def asBool : PyData → M Bool
  | .bool b => ret b
  | _ => no
def asInt : PyData → M Int
  | .int i => ret i
  | _ => no
def dat (x : PyData) : M Val := ret (.d x)
def boo (b : Bool) : M Val := ret (.d (.bool b))
/-- a list or a tuple of that many items fits -/
abbrev fitL (xs : List PyData) : Bool := decide (xs.length ≤ sizeLine)
def mkL (xs : List PyData) : M PyData := bnd (guard (fitL xs)) fun _ => ret (.list xs)
def mkT (xs : List PyData) : M PyData := bnd (guard (fitL xs)) fun _ => ret (.tuple xs)

def noDict (x : PyData) : Bool := x.canLay0
/-! ### operators -/
def small64 (i : Int) : Bool := decide (-(2 ^ 64) < i ∧ i < 2 ^ 64)
def addD : PyData → PyData → M PyData
  | .int i, .int j => ret (.int (i + j))
  | .str x, .str y => bnd (guard (decide (x.length + y.length ≤ sizeLine))) fun _ => ret (.str (x ++ y))
  | .list xs, .list ys => mkL (xs ++ ys)
  | .tuple xs, .tuple ys => mkT (xs ++ ys)
  | _, _ => no
/-- ints of less than half a million bits may be multiplied -/
def bits (i : Int) : Nat := i.natAbs.log2
def mulD : PyData → PyData → M PyData
  | .int i, .int j => bnd (guard (decide (bits i + bits j < 900000))) fun _ => ret (.int (i * j))
  | .list xs, .int k => bnd (guard (decide (-(2 ^ 63) ≤ k ∧ k < 2 ^ 63 ∧ xs.length * k.toNat ≤ sizeLine))) fun _ => ret (.list (List.replicate k.toNat xs).flatten)
  | _, _ => no
def binD : BinK → PyData → PyData → M PyData
  | .add, a, b => addD a b
  | .sub, .int i, .int j => ret (.int (i - j))
  | .mul, a, b => mulD a b
  | .fdiv, .int i, .int j => bnd (guard (decide (0 < j ∧ bits j < 9000))) fun _ => ret (.int (i / j))
  | .mod, .int i, .int j => bnd (guard (decide (0 < j))) fun _ => ret (.int (i % j))
  | .pow, .int i, .int j => bnd (guard (decide (0 ≤ j ∧ j ≤ 100 ∧ bits i < 256))) fun _ => ret (.int (i ^ j.toNat))
  | .band, .int i, .int j => ret (.int (Builtin.bitAnd i j))
  | .bor, .int i, .int j => ret (.int (Builtin.bitOr i j))
  | .shl, .int i, .int j => bnd (guard (decide (0 ≤ j ∧ j ≤ 100000 ∧ small64 i = true))) fun _ => ret (.int (i * 2 ^ j.toNat))
  | _, _, _ => no
/-- a < b of ints, of texts, of alike data of a kind -/
def ltD : PyData → PyData → M Bool
  | .int i, .int j => ret (decide (i < j))
  | .str x, .str y => ret (decide (x.cps.toList < y.cps.toList))
  | .list xs, .list ys => bnd (guard (W.alike (.list xs) (.list ys) && decide ((PyData.list xs).depth ≤ 60) && noDict (.list xs) && noDict (.list ys))) fun _ => ret (W.dataLt (.list xs) (.list ys))
  | .tuple xs, .tuple ys => bnd (guard (W.alike (.tuple xs) (.tuple ys) && decide ((PyData.tuple xs).depth ≤ 60) && noDict (.tuple xs) && noDict (.tuple ys))) fun _ => ret (W.dataLt (.tuple xs) (.tuple ys))
  | _, _ => no
/-- of ints, of texts -/
def ltA : PyData → PyData → M Bool
  | .int i, .int j => ret (decide (i < j))
  | .str x, .str y => ret (decide (x.cps.toList < y.cps.toList))
  | _, _ => no
/-- two lists of unlike lengths -/
def apartL : PyData → PyData → Bool
  | .list xs, .list ys => decide (xs.length ≠ ys.length)
  | _, _ => false
def eqD (a b : PyData) : M Bool := if apartL a b = true then ret false else bnd (guard (SeqAt.shaped a && SeqAt.shaped b)) fun _ => ret (PyData.eqv a b)
def lookD (kvs : List (PyData × PyData)) (k : PyData) : Option PyData := (kvs.find? fun p => PyData.eqv p.1 k).map (·.2)
def putD (kvs : List (PyData × PyData)) (k v : PyData) : List (PyData × PyData) :=
  if (kvs.any fun p => PyData.eqv p.1 k) = true then kvs.map (fun p => if PyData.eqv p.1 k = true then (p.1, v) else p) else kvs ++ [(k, v)]
def keyAtom : PyData → Bool
  | .int _ => true
  | .str _ => true
  | _ => false
/-- a key: an int, a text, a tuple of these -/
def isKey : PyData → Bool
  | .int _ => true
  | .str _ => true
  | .tuple xs => xs.all keyAtom
  | _ => false
def isTup : PyData → Bool
  | .tuple _ => true
  | _ => false
/-- a key of the kind that the table has -/
def keyOk (kvs : List (PyData × PyData)) (k : PyData) : Bool := isKey k && kvs.all fun p => isTup p.1 == isTup k
def flatD : PyData → Bool
  | .none => true
  | .bool _ => true
  | .int _ => true
  | .str _ => true
  | _ => false
def inD (a : PyData) : PyData → M Bool
  | .str y => (match a with
    | .str x => ret (!(Builtin.Str.occurrences y x 0 y.length 1).isEmpty)
    | _ => no)
  | .list ds => bnd (guard (SeqAt.shaped a && SeqAt.shaped (.list ds))) fun _ => ret (ds.any fun z => PyData.eqv z a)
  | .tuple ds => bnd (guard (flatD a && ds.all flatD)) fun _ => ret (ds.any fun z => PyData.eqv z a)
  | .dict kvs => bnd (guard (keyOk kvs a)) fun _ => ret (lookD kvs a).isSome
  | _ => no
def isD : PyData → PyData → M Bool
  | .none, .none => ret true
  | .bool a, .bool b => ret (a == b)
  | .none, _ => no
  | _, .none => ret false
  | _, _ => no
def cmpD : CmpK → PyData → PyData → M Bool
  | .eq, a, b => eqD a b
  | .ne, a, b => bnd (eqD a b) fun r => ret (!r)
  | .lt, a, b => ltD a b
  | .gt, a, b => ltA b a
  | .le, a, b => bnd (ltA b a) fun r => ret (!r)
  | .ge, a, b => bnd (ltD a b) fun r => ret (!r)
  | .is, a, b => isD a b
  | .isnot, a, b => bnd (isD a b) fun r => ret (!r)
  | .in, a, b => inD a b
  | .notin, a, b => bnd (inD a b) fun r => ret (!r)
/-! ### subscripts -/
def ofO {α : Type} : Option α → M α
  | some a => ret a
  | none => no
def ixD : PyData → PyData → M PyData
  | .list xs, .int i => ofO (L2.atI xs i)
  | .tuple xs, .int i => ofO (L2.atI xs i)
  | .str z, .int i => bnd (guard (decide (z.length ≤ sizeLine))) fun _ => bnd (ofO (L2.atI z.cps.toList i)) fun c => ret (.str ⟨#[c]⟩)
  | .dict kvs, k => bnd (guard (keyOk kvs k)) fun _ => ofO (lookD kvs k)
  | _, _ => no
def cutD (xs : List PyData) (lo hi : Option Int) : List PyData := (xs.drop (HT.sIx xs.length 0 lo)).take (HT.sIx xs.length xs.length hi - HT.sIx xs.length 0 lo)
def slD (x : PyData) (lo hi : Option Int) : M PyData := match x with
  | .list xs => ret (.list (cutD xs lo hi))
  | .tuple xs => ret (.tuple (cutD xs lo hi))
  | .str z => bnd (guard (decide (z.length ≤ sizeLine))) fun _ => ret (.str (L2.cutS z lo hi))
  | _ => no
/-! ### built-ins -/
def lenD : PyData → M PyData
  | .list xs => ret (.int xs.length)
  | .tuple xs => ret (.int xs.length)
  | .str z => bnd (guard (decide (z.length ≤ sizeLine))) fun _ => ret (.int z.length)
  | _ => no
def nubD : List PyData → List PyData → List PyData
  | acc, [] => acc
  | acc, x :: xs => if (acc.any fun y => PyData.eqv y x) = true then nubD acc xs else nubD (acc ++ [x]) xs
mutual
/-- what may lie in a set's tuple -/
def kOk : PyData → Bool
  | .none => true
  | .int _ => true
  | .str _ => true
  | .tuple xs => kOks xs
  | _ => false
def kOks : List PyData → Bool
  | [] => true
  | x :: xs => kOk x && kOks xs
end
def setOk (xs : List PyData) : Bool := (xs.all fun x => match x with | .tuple ys => kOks ys && decide (x.depth ≤ 8) | _ => false) && fitL xs && decide ((nubD [] xs).length < 64)
def allAlike (xs : List PyData) : Bool := xs.all fun a => xs.all fun b => W.alike a b
def sortable (xs : List PyData) : Bool :=
  (xs.all fun x => match x with | .tuple (_ :: _) => true | _ => false) || (xs.all fun x => match x with | .none => false | .tuple _ => false | _ => true)
def sortD (xs : List PyData) : M PyData :=
  bnd (guard (allAlike xs && sortable xs && fitL xs && (xs.all fun x => noDict x && decide (x.depth ≤ 60)))) fun _ => ret (.list (xs.mergeSort (W.dataLe false id)))
def intsL : List PyData → M (List Int)
  | [] => ret []
  | .int i :: r => bnd (intsL r) fun ns => ret (i :: ns)
  | _ => no
def catL : List PyData → M (List PyData)
  | [] => ret []
  | .list xs :: r => bnd (catL r) fun ys => ret (xs ++ ys)
  | _ => no
/-- dict(xs): pairs -/
def pairsD : List (PyData × PyData) → List PyData → M (List (PyData × PyData))
  | acc, [] => ret acc
  | acc, .tuple [k, v] :: r => bnd (guard (keyAtom k)) fun _ => pairsD (putD acc k v) r
  | _, _ => no
/-- key, value, key, value .. -/
def twoD : List (PyData × PyData) → List PyData → M (List (PyData × PyData))
  | acc, [] => ret acc
  | acc, k :: v :: r => bnd (guard (keyAtom k)) fun _ => twoD (putD acc k v) r
  | _, _ => no
def maxI : Int → List Int → Int
  | m, [] => m
  | m, i :: r => maxI (if i > m then i else m) r
def minI : Int → List Int → Int
  | m, [] => m
  | m, i :: r => minI (if i < m then i else m) r
def b1D : B1 → PyData → M PyData
  | .len, x => lenD x
  | .repr, x => bnd (guard (x.showable && decide (x.shown.length + 64 ≤ sizeLine) && decide (x.depth ≤ 60))) fun _ => ret (.str x.shown)
  | .int, .int i => ret (.int i)
  | .int, .bool b => ret (.int (if b then 1 else 0))
  | .str, .int i => bnd (guard (decide (i.natAbs.log2 < 1920))) fun _ => ret (.str (toString i))
  | .sorted, .list xs => sortD xs
  | .list, .list xs => ret (.list xs)
  | .list, .tuple xs => ret (.list xs)
  | .list, .dict kvs => bnd (guard (kvs.all fun p => keyAtom p.1)) fun _ => ret (.list (kvs.map (·.1)))
  | .tuple, .list xs => ret (.tuple xs)
  | .tuple, .tuple xs => ret (.tuple xs)
  | .dict, .list xs => bnd (guard (fitL xs)) fun _ => bnd (pairsD [] xs) fun kvs => ret (.dict kvs)
  | .sum, .list xs => bnd (intsL xs) fun ns => ret (.int ns.sum)
  | .max, .list xs => bnd (intsL xs) fun ns => match ns with
    | i :: r => ret (.int (maxI i r))
    | [] => no
  | .min, .list xs => bnd (intsL xs) fun ns => match ns with
    | i :: r => ret (.int (minI i r))
    | [] => no
  | .sset, .list xs => bnd (guard (setOk xs)) fun _ => sortD (nubD [] xs)
  | .lset, .list xs => bnd (guard (setOk xs)) fun _ => ret (.int (nubD [] xs).length)
  | .svals, .dict kvs => bnd (guard ((kvs.all fun p => keyAtom p.1) && !kvs.isEmpty)) fun _ => sortD (kvs.map (·.2))
  | .bitlen, .int i => ret (.int (Builtin.Int.intBits i : Nat))
  | .neg, .int i => ret (.int (-i))
  | _, _ => no
def b2D : B2 → PyData → PyData → M PyData
  | .max, .int i, .int j => ret (.int (if j > i then j else i))
  | .min, .int i, .int j => ret (.int (if j < i then j else i))
  | .sum, .list xs, .list [] => bnd (catL xs) fun ys => mkL ys
  | _, _, _ => no
def tyD : Ty → PyData → Bool
  | .tstr, .str _ => true
  | .tint, .int _ => true
  | .tint, .bool _ => true
  | .tbool, .bool _ => true
  | .ttuple, .tuple _ => true
  | .tlist, .list _ => true
  | .tdict, .dict _ => true
  | _, _ => false
def strsOf : List PyData → M (List Str)
  | [] => ret []
  | .str x :: r => bnd (strsOf r) fun ys => ret (x :: ys)
  | _ => no
def idxD (xs : List PyData) (d : PyData) : Option Nat := xs.findIdx? fun y => PyData.eqv y d
def m1D : M1 → PyData → PyData → M PyData
  | .index, .list xs, d => bnd (guard (SeqAt.shaped d && SeqAt.shaped (.list xs))) fun _ => bnd (ofO (idxD xs d)) fun j => ret (.int j)
  | .join, .str a, .list xs => bnd (strsOf xs) fun ys => bnd (guard (decide ((ys.map fun y => y.length + a.length).sum + 64 ≤ sizeLine))) fun _ => ret (.str (Txt.join a ys))
  | .find, .str a, .str b => ret (.int (Txt.find a b))
  | .count, .str a, .str b => ret (.int (Txt.count a b))
  | .get, .dict kvs, k => bnd (guard (keyOk kvs k)) fun _ => ret ((lookD kvs k).getD .none)
  | _, _, _ => no
def m2D : M2 → PyData → PyData → PyData → M PyData
  | .get, .dict kvs, k, z => bnd (guard (keyOk kvs k)) fun _ => ret ((lookD kvs k).getD z)
  | _, _, _, _ => no
def m1Y : M1 → Ty
  | .append => .tlist | .pop => .tlist | .extend => .tlist | .index => .tlist | .join => .tstr | .find => .tstr | .count => .tstr | .split => .tstr | .get => .tdict
def m2Y : M2 → Ty
  | .get => .tdict | .replace => .tstr | .setdefault => .tdict
/-! ### methods that change their object -/
def m0V : M0 → Val → M PyData
  | .pop, .c i => fun S => match S[i]? with
    | some (some (.l xs)) => (match xs.getLast? with
      | some y => .ok y (S.set i (some (.l xs.dropLast)))
      | none => .no)
    | _ => .no
  | .bitlen, .d (.int i) => ret (.int (Builtin.Int.intBits i : Nat))
  | _, _ => no
def m1V : M1 → Val → PyData → M PyData
  | .append, .c i, y => fun S => match S[i]? with
    | some (some (.l xs)) => if xs.length < sizeLine then .ok .none (S.set i (some (.l (xs ++ [y])))) else .no
    | _ => .no
  | .pop, .c i, .int j => fun S => match S[i]? with
    | some (some (.l xs)) => if -(2 ^ 63) ≤ j ∧ j < 2 ^ 63 then (match L2.ixN xs.length j with
      | some k => (match xs[k]? with
        | some y => .ok y (S.set i (some (.l (xs.eraseIdx k))))
        | none => .no)
      | none => .no) else .no
    | _ => .no
  | .append, _, _ => no
  | .pop, _, _ => no
  | .extend, .c i, .list ys => fun S => match S[i]? with
    | some (some (.l xs)) => if xs.length + ys.length ≤ sizeLine then .ok .none (S.set i (some (.l (xs ++ ys)))) else .no
    | _ => .no
  | .extend, _, _ => no
  | m, v, y => bnd (peek v) fun x => m1D m x y
def m2V : M2 → Val → PyData → PyData → M PyData
  | m, v, y, z => bnd (peek v) fun x => m2D m x y z
/-- o[i] = v -/
def setV : Val → PyData → PyData → M Unit
  | .c c, k, v => fun S => match S[c]? with
    | some (some (.l xs)) => (match k with
      | .int j => (match L2.ixN xs.length j with
        | some p => .ok () (S.set c (some (.l (xs.set p v))))
        | none => .no)
      | _ => .no)
    | some (some (.m kvs)) => if keyOk kvs k = true ∧ kvs.length < sizeLine then .ok () (S.set c (some (.m (putD kvs k v)))) else .no
    | _ => .no
  | _, _, _ => no
/-! ### what is walked -/
/-- the items, and the cell (with what it holds) whence they come -/
structure Src where
  its : List Val
  src : Option (Nat × List PyData)
def intsV (ns : List Int) : List Val := ns.map fun n => .d (.int n)
def rng (lo : Int) (n : Nat) : List Val := (List.range n).map fun i => .d (.int (lo + (i : Nat)))
def rngC (lo c : Int) (n : Nat) : List Val := (List.range n).map fun i => .d (.int (lo + (i : Nat) * c))
def in62 (i : Int) : Bool := decide (-(2 ^ 62) ≤ i ∧ i < 2 ^ 62)
def walkV : Val → M Src
  | .d (.list xs) => ret ⟨xs.map .d, none⟩
  | .d (.tuple xs) => ret ⟨xs.map .d, none⟩
  | .d (.str z) => ret ⟨z.cps.toList.map fun c => .d (.str ⟨#[c]⟩), none⟩
  | .c i => fun S => match S[i]? with
    | some (some (.l xs)) => .ok ⟨xs.map .d, some (i, xs)⟩ S
    | _ => .no
  | .scr ns => ret ⟨intsV ns, none⟩
  | _ => no
/-- the cell stands as it stood -/
def stays (p : Option (Nat × List PyData)) : M Unit := fun S => match p with
  | none => .ok () S
  | some (i, xs) => (match S[i]? with
    | some (some (.l ys)) => if beqL xs ys = true then .ok () S else .no
    | _ => .no)
def enumV (v : Val) : M Src := bnd (peek v) fun x => match x with
  | .list xs => ret ⟨xs.zipIdx.map fun p => .d (.tuple [.int (p.2 : Nat), p.1]), match v with | .c i => some (i, xs) | _ => none⟩
  | _ => no
def zipV : PyData → PyData → M Src
  | .list xs, .list ys => ret ⟨(xs.zip ys).map fun p => .d (.tuple [p.1, p.2]), none⟩
  | .tuple xs, .tuple ys => ret ⟨(xs.zip ys).map fun p => .d (.tuple [p.1, p.2]), none⟩
  | _, _ => no
def revV : PyData → M Src
  | .list xs => ret ⟨xs.reverse.map .d, none⟩
  | _ => no
/-! ### targets -/
def setAt (env : Env) : List Nat → List PyData → M Env
  | [], [] => ret env
  | i :: is, x :: xs => setAt (env.set i (some (.d x))) is xs
  | _, _ => no
def bindT : Tg → Val → Env → M Env
  | .nm i, v, env => ret (env.set i (some v))
  | .tp is, .d (.tuple xs), env => setAt env is xs
  | _, _, _ => no
def setVs : Env → List Nat → List Val → Env
  | env, i :: is, v :: vs => setVs (env.set i (some v)) is vs
  | env, _, _ => env
def wipeE : Env → List Nat → Env
  | e, [] => e
  | e, v :: vs => (wipeE e vs).set v none
/-! ### loops -/
/-- a list comprehension's turns: f gives an item, or none where a test fails -/
def lcL (p : Option (Nat × List PyData)) (f : Val → M (Option PyData)) : List Val → List PyData → M (List PyData)
  | [], acc => bnd (stays p) fun _ => ret acc
  | v :: vs, acc => bnd (stays p) fun _ => bnd (f v) fun o => match o with
    | some y => lcL p f vs (acc ++ [y])
    | none => lcL p f vs acc
def dcL (f : Val → M (Option (PyData × PyData))) : List Val → List (PyData × PyData) → M (List (PyData × PyData))
  | [], acc => ret acc
  | v :: vs, acc => bnd (f v) fun o => match o with
    | some (k, y) => bnd (guard (keyOk acc k)) fun _ => dcL f vs (putD acc k y)
    | none => dcL f vs acc
/-- how a statement ends -/
inductive Fl where
  | nx (e : Env) | br (e : Env) | ct (e : Env) | rt (v : Val)
def forL (p : Option (Nat × List PyData)) (f : Val → Env → M Fl) : List Val → Env → M Fl
  | [], env => bnd (stays p) fun _ => ret (.nx env)
  | v :: vs, env => bnd (stays p) fun _ => bnd (f v env) fun fl => match fl with
    | .nx e => forL p f vs e
    | .ct e => forL p f vs e
    | .br e => ret (.nx e)
    | .rt v => ret (.rt v)
def whlL (c : Env → M Bool) (f : Env → M Fl) : Nat → Env → M Fl
  | 0, _ => no
  | n + 1, env => bnd (c env) fun b => if b = true then bnd (f env) fun fl => match fl with
      | .nx e => whlL c f n e
      | .ct e => whlL c f n e
      | .br e => ret (.nx e)
      | .rt v => ret (.rt v)
    else ret (.nx env)
/-- while loops take fewer turns than that -/
def fuel : Nat := 1000000000

/-! ### the interpreter -/
def getV (env : Env) (i : Nat) : M Val := match env[i]? with
  | some (some v) => ret v
  | _ => no
def lenV : Val → M PyData
  | .scr ns => ret (.int ns.length)
  | v => bnd (peek v) lenD
def ixV : Val → PyData → M PyData
  | .scr ns, .int i => bnd (ofO (L2.atI ns i)) fun n => ret (.int n)
  | .scr _, _ => no
  | v, i => bnd (peek v) fun x => ixD x i
def slV : Val → Option Int → Option Int → M PyData
  | .scr ns, lo, hi => slD (.list (ns.map .int)) lo hi
  | v, lo, hi => bnd (peek v) fun x => slD x lo hi
def toB (v : Val) : M Bool := match v with
  | .d (.bool b) => ret b
  | _ => no
def toI (v : Val) : M Int := match v with
  | .d (.int i) => ret i
  | _ => no
def permL {α : Type} (l : List α) : List Nat → Option (List α)
  | [] => some []
  | i :: is => match l[i]?, permL l is with
    | some x, some r => some (x :: r)
    | _, _ => none
variable (Γ : Nat → List Val → M Val) (gl : List PyData)
mutual
def eval : Ex → Env → M Val
  | .var i, env => getV env i
  | .con x, _ => dat x
  | .glb k, _ => bnd (ofO gl[k]?) dat
  | .tup es, env => bnd (evalD es env) fun xs => bnd (mkT xs) dat
  | .lst es, env => bnd (evalD es env) fun xs => bnd (mkL xs) dat
  | .bin o a b, env => bnd (eval a env) fun v => bnd (eval b env) fun u => bnd (peek v) fun x => bnd (peek u) fun y => bnd (binD o x y) dat
  | .cmp o a b, env => bnd (eval a env) fun v => bnd (eval b env) fun u => bnd (peek v) fun x => bnd (peek u) fun y => bnd (cmpD o x y) boo
  | .chn o o' a b c, env => bnd (eval a env) fun v => bnd (eval b env) fun u => bnd (peek v) fun x => bnd (peek u) fun y => bnd (cmpD o x y) fun r =>
      if r = true then bnd (eval c env) fun w => bnd (peek u) fun y' => bnd (peek w) fun z => bnd (cmpD o' y' z) boo else boo false
  | .and es, env => bnd (evalA es env) boo
  | .or es, env => bnd (evalO es env) boo
  | .not a, env => bnd (eval a env) fun v => bnd (toB v) fun b => boo (!b)
  | .ite t a b, env => bnd (eval t env) fun v => bnd (toB v) fun c => if c = true then eval a env else eval b env
  | .ix a b, env => bnd (eval a env) fun v => bnd (eval b env) fun u => bnd (peek u) fun i => bnd (ixV v i) dat
  | .slf a b, env => bnd (eval a env) fun v => bnd (eval b env) fun u => bnd (toI u) fun i => bnd (slV v (some i) none) dat
  | .slt a b, env => bnd (eval a env) fun v => bnd (eval b env) fun u => bnd (toI u) fun i => bnd (slV v none (some i)) dat
  | .slb a b c, env => bnd (eval a env) fun v => bnd (eval b env) fun u => bnd (toI u) fun i => bnd (eval c env) fun w => bnd (toI w) fun j => bnd (slV v (some i) (some j)) dat
  | .rev a, env => bnd (eval a env) fun v => bnd (peek v) fun x => match x with
    | .list xs => dat (.list xs.reverse)
    | _ => no
  | .call f es, env => bnd (evalV es env) fun vs => Γ f vs
  | .callk f es perm, env => bnd (evalV es env) fun vs => bnd (ofO (permL vs perm)) fun us => Γ f us
  | .b1 b a, env => bnd (eval a env) fun v => match b with
    | .len => bnd (lenV v) dat
    | b => bnd (peek v) fun x => bnd (b1D b x) dat
  | .b2 b a c, env => bnd (eval a env) fun v => bnd (eval c env) fun u => bnd (peek v) fun x => bnd (own u) fun y => bnd (b2D b x y) dat
  | .isi a t, env => bnd (eval a env) fun v => bnd (peek v) fun x => boo (tyD t x)
  | .m0 m o, env => bnd (eval o env) fun v => bnd (m0V m v) dat
  | .m1 m o a, env => bnd (eval o env) fun v => bnd (peek v) fun x => bnd (guard (tyD (m1Y m) x)) fun _ => bnd (eval a env) fun u => bnd (own u) fun y => bnd (m1V m v y) dat
  | .m2 m o a b, env => bnd (eval o env) fun v => bnd (peek v) fun x => bnd (guard (tyD (m2Y m) x)) fun _ => bnd (eval a env) fun u => bnd (own u) fun y => bnd (eval b env) fun w => bnd (own w) fun z => bnd (m2V m v y z) dat
  | .lc elt t it cond ow, env => bnd (evalI it env) fun s => bnd (lcL s.src (fun v => bnd (bindT t v (wipeE env ow)) fun e1 => bnd (evalA cond e1) fun b =>
      if b = true then bnd (eval elt e1) fun u => bnd (own u) fun y => ret (some y) else ret none) s.its []) fun ys => bnd (mkL ys) dat
  | .lc2 elt t it cond t2 it2 cond2 ow ow2, env => bnd (evalI it env) fun s => bnd (lcL s.src (fun v => bnd (bindT t v (wipeE env ow)) fun e1 => bnd (evalA cond e1) fun b =>
      if b = true then bnd (evalI it2 e1) fun s2 => bnd (lcL s2.src (fun v2 => bnd (bindT t2 v2 (wipeE e1 ow2)) fun e2 => bnd (evalA cond2 e2) fun b2 =>
        if b2 = true then bnd (eval elt e2) fun u => bnd (own u) fun y => ret (some y) else ret none) s2.its []) fun ys => bnd (mkL ys) fun z => ret (some z) else ret none) s.its []) fun yss =>
          bnd (catL yss) fun ys => bnd (mkL ys) dat
  | .dc k w t it cond ow, env => bnd (evalI it env) fun s => bnd (dcL (fun v => bnd (bindT t v (wipeE env ow)) fun e1 => bnd (evalA cond e1) fun b =>
      if b = true then bnd (eval k e1) fun u => bnd (own u) fun y => bnd (eval w e1) fun u2 => bnd (own u2) fun z => ret (some (y, z)) else ret none) s.its []) fun kvs =>
        bnd (guard (decide (kvs.length ≤ sizeLine))) fun _ => dat (.dict kvs)
  | .dd es, env => bnd (evalD es env) fun xs => bnd (twoD [] xs) fun kvs => dat (.dict kvs)
  | .mk e, env => bnd (eval e env) fun v => match v with
    | .d (.list xs) => alloc (.l xs)
    | .d (.dict kvs) => alloc (.m kvs)
    | _ => no
/-- data, one after another -/
def evalD : Exs → Env → M (List PyData)
  | .nil, _ => ret []
  | .cons e es, env => bnd (eval e env) fun v => bnd (own v) fun x => bnd (evalD es env) fun xs => ret (x :: xs)
/-- values -/
def evalV : Exs → Env → M (List Val)
  | .nil, _ => ret []
  | .cons e es, env => bnd (eval e env) fun v => bnd (evalV es env) fun vs => ret (v :: vs)
def evalA : Exs → Env → M Bool
  | .nil, _ => ret true
  | .cons e es, env => bnd (eval e env) fun v => bnd (toB v) fun b => if b = true then evalA es env else ret false
def evalO : Exs → Env → M Bool
  | .nil, _ => ret false
  | .cons e es, env => bnd (eval e env) fun v => bnd (toB v) fun b => if b = true then ret true else evalO es env
def evalI : It → Env → M Src
  | .val e, env => bnd (eval e env) walkV
  | .rg1 a, env => bnd (eval a env) fun v => bnd (toI v) fun j => bnd (guard (in62 j)) fun _ => ret ⟨rng 0 j.toNat, none⟩
  | .rg2 a b, env => bnd (eval a env) fun v => bnd (eval b env) fun u => bnd (toI v) fun i => bnd (toI u) fun j => bnd (guard (in62 i && in62 j)) fun _ => ret ⟨rng i (j - i).toNat, none⟩
  | .rg3 a b c, env => bnd (eval a env) fun v => bnd (eval b env) fun u => bnd (eval c env) fun w => bnd (toI v) fun i => bnd (toI u) fun j => bnd (toI w) fun k =>
      bnd (guard (in62 i && in62 j && decide (k = -1))) fun _ => ret ⟨rngC i (-1) (i - j).toNat, none⟩
  | .en e, env => bnd (eval e env) enumV
  | .zp a b, env => bnd (eval a env) fun v => bnd (eval b env) fun u => bnd (own v) fun x => bnd (own u) fun y => zipV x y
  | .rv e, env => bnd (eval e env) fun v => bnd (own v) revV
  | .itm e, env => bnd (eval e env) fun v => no
  | .vls e, env => bnd (eval e env) fun v => no
end
mutual
def exec : Sm → Env → M Fl
  | .asg t e, env => bnd (eval Γ gl e env) fun v => bnd (bindT t v env) fun e1 => ret (.nx e1)
  | .par is es, env => bnd (evalV Γ gl es env) fun vs => bnd (guard (decide (vs.length = is.length ∧ vs.length ≤ 1000))) fun _ => ret (.nx (setVs env is vs))
  | .setI o i e, env => bnd (eval Γ gl e env) fun v => bnd (own v) fun y => bnd (eval Γ gl o env) fun w => bnd (eval Γ gl i env) fun u => bnd (own u) fun k => bnd (setV w k y) fun _ => ret (.nx env)
  | .aug i o e, env => bnd (getV env i) fun v => bnd (eval Γ gl e env) fun u => bnd (toI v) fun x => bnd (toI u) fun y => bnd (binD o (.int x) (.int y)) fun z => ret (.nx (env.set i (some (.d z))))
  | .ex e, env => bnd (eval Γ gl e env) fun _ => ret (.nx env)
  | .ifs c a b, env => bnd (eval Γ gl c env) fun v => bnd (toB v) fun t => if t = true then execs a env else execs b env
  | .whl c b, env => whlL (fun e => bnd (eval Γ gl c e) toB) (fun e => execs b e) fuel env
  | .for_ t it b, env => bnd (evalI Γ gl it env) fun s => forL s.src (fun v e => bnd (bindT t v e) fun e1 => execs b e1) s.its env
  | .rtn e, env => bnd (eval Γ gl e env) fun v => ret (.rt v)
  | .brk, env => ret (.br env)
  | .cnt, env => ret (.ct env)
  | .pass, env => ret (.nx env)
  | .rse k e, env => bnd (eval Γ gl e env) fun v => bnd (own v) fun x => fun S => .ex k x S
def execs : Sms → Env → M Fl
  | .nil, env => ret (.nx env)
  | .cons s ss, env => bnd (exec s env) fun fl => match fl with
    | .nx e => execs ss e
    | fl => ret fl
end
/-- a def's call -/
def Fn.run (fn : Fn) (vs : List Val) : M Val := fun S =>
  if vs.length = fn.np then
    match execs Γ gl fn.body (vs.map some ++ List.replicate (fn.ns - fn.np) none) S with
    | .ok (.rt v) S1 => if fn.raw = true then .ok v S1 else (match own v S1 with
      | .ok x S2 => .ok (.d x) (S2.take S.length)
      | _ => .no)
    | .ok (.nx _) S1 => if fn.raw = true then .ok (.d .none) S1 else .ok (.d .none) (S1.take S.length)
    | .ok _ _ => .no
    | .ex k v S1 => .ex k v (S1.take S.length)
    | .no => .no
  else .no
def Tab.run (T : Tab) : Nat → Nat → List Val → M Val
  | 0, _, _ => no
  | n + 1, f, vs => match T.fns[f]? with
    | some fn => fn.run (T.run n) T.gl vs
    | none => no
end Mp
end
section
set_option autoImplicit false
set_option linter.all false
set_option maxRecDepth 100000
/-! Mp1: how data and cells stand in the abstract heap. -/
namespace Mp
open PySem PySem.Spec PyProof.Rows L2
/-! ### keys -/
def keyK : PyData → Option Key
  | .int i => some (.inl i)
  | .str s => some (.inr s)
  | _ => none
def keysK : List PyData → Option (List Key)
  | [] => some []
  | x :: xs => match keyK x, keysK xs with
    | some k, some ks => some (k :: ks)
    | _, _ => none
def keyT : PyData → Option (List Key)
  | .tuple xs => keysK xs
  | _ => none
section
variable (Z : Hp)
mutual
/-- the value u reads as the data, by the heap Z (what changes no more) and the written part -/
def DR : PyData → V → Prop
  | .none, u => u = .non
  | .bool b, u => u = .bl b
  | .int i, u => u = .int i
  | .str s, u => u = .str s
  | .list xs, u => ∃ a us, u = .ref a ∧ Z a = some (.lst us) ∧ DRs xs us
  | .tuple xs, u => ∃ a us, u = .ref a ∧ Z a = some (.tup us) ∧ DRs xs us
  | .dict kvs, u => ∃ a, u = .ref a ∧ ((∃ ws, Z a = some (.dK ws) ∧ DRk kvs ws) ∨ ∃ ws, Z a = some (.dT ws) ∧ DRt kvs ws)
def DRs : List PyData → List V → Prop
  | [], us => us = []
  | x :: xs, us => ∃ u r, us = u :: r ∧ DR x u ∧ DRs xs r
def DRk : List (PyData × PyData) → List (Key × V) → Prop
  | [], ws => ws = []
  | (k, x) :: r, ws => ∃ k' u t, ws = (k', u) :: t ∧ keyK k = some k' ∧ DR x u ∧ DRk r t
def DRt : List (PyData × PyData) → List (List Key × V) → Prop
  | [], ws => ws = []
  | (k, x) :: r, ws => ∃ k' u t, ws = (k', u) :: t ∧ keyT k = some k' ∧ DR x u ∧ DRt r t
end
end
section
variable {K : PySem.W.Frag} {Z Z' H H' : Hp}
/-- all of Z stands in Z' -/
def Le (Z Z' : Hp) : Prop := ∀ a o, Z a = some o → Z' a = some o
theorem Le.refl (Z : Hp) : Le Z Z := fun _ _ h => h
theorem Le.trans {A B C : Hp} (x : Le A B) (y : Le B C) : Le A C := fun a o h => y a o (x a o h)
theorem SqT.le {a : Addr} {us : List V} (h : SqT K Z a us) (l : Le Z Z') : SqT K Z' a us := by
  rcases h with (h | ⟨o, h⟩) | h
  · exact .inl (.inl (l _ _ h))
  · exact .inl (.inr ⟨o, l _ _ h⟩)
  · exact .inr h
theorem SqL.le {a : Addr} {us : List V} (h : SqL K Z a us) (l : Le Z Z') : SqL K Z' a us := by
  rcases h with (h | ⟨o, h⟩) | h
  · exact .inl (.inl (l _ _ h))
  · exact .inl (.inr ⟨o, l _ _ h⟩)
  · exact .inr h
mutual
theorem DR.le (l : Le Z Z') : ∀ (x : PyData) (u : V), DR Z x u → DR Z' x u
  | .none, u, h => by simpa only [DR] using h
  | .bool _, u, h => by simpa only [DR] using h
  | .int _, u, h => by simpa only [DR] using h
  | .str _, u, h => by simpa only [DR] using h
  | .list xs, u, h => by
    simp only [DR] at h ⊢
    obtain ⟨a, us, e, hz, hs⟩ := h
    exact ⟨a, us, e, l _ _ hz, DRs.le l xs us hs⟩
  | .tuple xs, u, h => by
    simp only [DR] at h ⊢
    obtain ⟨a, us, e, hz, hs⟩ := h
    exact ⟨a, us, e, l _ _ hz, DRs.le l xs us hs⟩
  | .dict kvs, u, h => by
    simp only [DR] at h ⊢
    obtain ⟨a, e, ⟨ws, hz, hs⟩ | ⟨ws, hz, hs⟩⟩ := h
    · exact ⟨a, e, .inl ⟨ws, l _ _ hz, DRk.le l kvs ws hs⟩⟩
    · exact ⟨a, e, .inr ⟨ws, l _ _ hz, DRt.le l kvs ws hs⟩⟩
theorem DRs.le (l : Le Z Z') : ∀ (xs : List PyData) (us : List V), DRs Z xs us → DRs Z' xs us
  | [], us, h => by simpa only [DRs] using h
  | x :: xs, us, h => by
    simp only [DRs] at h ⊢
    obtain ⟨u, r, e, h1, h2⟩ := h
    exact ⟨u, r, e, DR.le l x u h1, DRs.le l xs r h2⟩
theorem DRk.le (l : Le Z Z') : ∀ (kvs : List (PyData × PyData)) (ws : List (Key × V)), DRk Z kvs ws → DRk Z' kvs ws
  | [], us, h => by simpa only [DRk] using h
  | (k, x) :: xs, us, h => by
    simp only [DRk] at h ⊢
    obtain ⟨k', u, r, e, hk, h1, h2⟩ := h
    exact ⟨k', u, r, e, hk, DR.le l x u h1, DRk.le l xs r h2⟩
theorem DRt.le (l : Le Z Z') : ∀ (kvs : List (PyData × PyData)) (ws : List (List Key × V)), DRt Z kvs ws → DRt Z' kvs ws
  | [], us, h => by simpa only [DRt] using h
  | (k, x) :: xs, us, h => by
    simp only [DRt] at h ⊢
    obtain ⟨k', u, r, e, hk, h1, h2⟩ := h
    exact ⟨k', u, r, e, hk, DR.le l x u h1, DRt.le l xs r h2⟩
end
/-! ### lists of data -/
theorem DRs.nil_iff {us : List V} : DRs Z [] us ↔ us = [] := by simp only [DRs]
theorem DRs.cons_iff {x : PyData} {xs : List PyData} {us : List V} : DRs Z (x :: xs) us ↔ ∃ u r, us = u :: r ∧ DR Z x u ∧ DRs Z xs r := by simp only [DRs]
theorem DRs.cons {x : PyData} {xs : List PyData} {u : V} {us : List V} (h : DR Z x u) (t : DRs Z xs us) : DRs Z (x :: xs) (u :: us) := DRs.cons_iff.mpr ⟨u, us, rfl, h, t⟩
theorem DRs.nil : DRs Z [] [] := DRs.nil_iff.mpr rfl
theorem DRs.length : ∀ {xs : List PyData} {us : List V}, DRs Z xs us → us.length = xs.length
  | [], us, h => by rw [DRs.nil_iff.mp h]; rfl
  | x :: xs, us, h => by
    obtain ⟨u, r, e, _, t⟩ := DRs.cons_iff.mp h
    rw [e, List.length_cons, List.length_cons, DRs.length t]
theorem DRs.get : ∀ {xs : List PyData} {us : List V} {i : Nat} {x : PyData}, DRs Z xs us → xs[i]? = some x → ∃ u, us[i]? = some u ∧ DR Z x u
  | [], _, _, _, _, e => by simp at e
  | y :: xs, us, 0, x, h, e => by
    obtain ⟨u, r, rfl, h1, _⟩ := DRs.cons_iff.mp h
    simp at e
    subst e
    exact ⟨u, rfl, h1⟩
  | y :: xs, us, i + 1, x, h, e => by
    obtain ⟨u, r, rfl, _, t⟩ := DRs.cons_iff.mp h
    simp at e
    obtain ⟨w, a, b⟩ := DRs.get t e
    exact ⟨w, by simpa using a, b⟩
theorem DRs.get' : ∀ {xs : List PyData} {us : List V} {i : Nat} {u : V}, DRs Z xs us → us[i]? = some u → ∃ x, xs[i]? = some x ∧ DR Z x u
  | [], us, i, u, h, e => by rw [DRs.nil_iff.mp h] at e; simp at e
  | y :: xs, us, 0, u, h, e => by
    obtain ⟨w, r, rfl, h1, _⟩ := DRs.cons_iff.mp h
    simp at e
    subst e
    exact ⟨y, rfl, h1⟩
  | y :: xs, us, i + 1, u, h, e => by
    obtain ⟨w, r, rfl, _, t⟩ := DRs.cons_iff.mp h
    simp at e
    obtain ⟨x, a, b⟩ := DRs.get' t e
    exact ⟨x, by simpa using a, b⟩
theorem DRs.append : ∀ {xs ys : List PyData} {us ws : List V}, DRs Z xs us → DRs Z ys ws → DRs Z (xs ++ ys) (us ++ ws)
  | [], _, _, _, h, t => by rw [DRs.nil_iff.mp h]; exact t
  | x :: xs, ys, us, ws, h, t => by
    obtain ⟨u, r, rfl, h1, h2⟩ := DRs.cons_iff.mp h
    exact DRs.cons h1 (DRs.append h2 t)
theorem DRs.drop : ∀ {xs : List PyData} {us : List V} (n : Nat), DRs Z xs us → DRs Z (xs.drop n) (us.drop n)
  | xs, us, 0, h => h
  | [], us, n + 1, h => by rw [DRs.nil_iff.mp h]; exact DRs.nil
  | x :: xs, us, n + 1, h => by
    obtain ⟨u, r, rfl, _, t⟩ := DRs.cons_iff.mp h
    exact DRs.drop n t
theorem DRs.take : ∀ {xs : List PyData} {us : List V} (n : Nat), DRs Z xs us → DRs Z (xs.take n) (us.take n)
  | xs, us, 0, h => by rw [List.take_zero, List.take_zero]; exact DRs.nil
  | [], us, n + 1, h => by rw [DRs.nil_iff.mp h]; exact DRs.nil
  | x :: xs, us, n + 1, h => by
    obtain ⟨u, r, rfl, h1, t⟩ := DRs.cons_iff.mp h
    rw [List.take_succ_cons, List.take_succ_cons]
    exact DRs.cons h1 (DRs.take n t)
theorem DRs.eraseIdx : ∀ {xs : List PyData} {us : List V} (n : Nat), DRs Z xs us → DRs Z (xs.eraseIdx n) (us.eraseIdx n)
  | [], us, n, h => by rw [DRs.nil_iff.mp h]; exact DRs.nil
  | x :: xs, us, 0, h => by
    obtain ⟨u, r, rfl, h1, t⟩ := DRs.cons_iff.mp h
    exact t
  | x :: xs, us, n + 1, h => by
    obtain ⟨u, r, rfl, h1, t⟩ := DRs.cons_iff.mp h
    exact DRs.cons h1 (DRs.eraseIdx n t)
theorem DRs.set : ∀ {xs : List PyData} {us : List V} (n : Nat) {x : PyData} {u : V}, DRs Z xs us → DR Z x u → DRs Z (xs.set n x) (us.set n u)
  | [], us, n, x, u, h, hx => by rw [DRs.nil_iff.mp h]; exact DRs.nil
  | y :: xs, us, 0, x, u, h, hx => by
    obtain ⟨w, r, rfl, h1, t⟩ := DRs.cons_iff.mp h
    exact DRs.cons hx t
  | y :: xs, us, n + 1, x, u, h, hx => by
    obtain ⟨w, r, rfl, h1, t⟩ := DRs.cons_iff.mp h
    exact DRs.cons h1 (DRs.set n t hx)
theorem DRs.reverse : ∀ {xs : List PyData} {us : List V}, DRs Z xs us → DRs Z xs.reverse us.reverse
  | [], us, h => by rw [DRs.nil_iff.mp h]; exact DRs.nil
  | x :: xs, us, h => by
    obtain ⟨u, r, rfl, h1, t⟩ := DRs.cons_iff.mp h
    rw [List.reverse_cons, List.reverse_cons]
    exact DRs.append (DRs.reverse t) (DRs.cons h1 DRs.nil)
theorem DRs.dropLast {xs : List PyData} {us : List V} (h : DRs Z xs us) : DRs Z xs.dropLast us.dropLast := by
  rw [List.dropLast_eq_take, List.dropLast_eq_take, h.length]
  exact h.take _
/-- what changes no more stands in the heap (a dict perhaps locked) -/
def isDic : HO → Bool
  | .dK (_ :: _) => true
  | .dT (_ :: _) => true
  | _ => false
/-- it stands there, or it is a dict that is locked (then it has an entry) -/
def Rdd (H : Hp) (a : Addr) (o : HO) : Prop := H a = some o ∨ (isDic o = true ∧ ∃ od, H a = some (.frz od o))
theorem Rdd.rd {H : Hp} {a : Addr} {o : HO} (h : Rdd H a o) : Rd H a o := by
  rcases h with h | ⟨_, od, h⟩
  · exact .inl h
  · exact .inr ⟨od, h⟩
theorem Rdd.at_ne {H : Hp} {a p : Addr} {o q : HO} (hn : a ≠ p) (h : Rdd H a o) : Rdd (upd H p q) a o := by
  rcases h with h | ⟨e, od, h⟩
  · exact .inl (by rw [upd_ne hn]; exact h)
  · exact .inr ⟨e, od, by rw [upd_ne hn]; exact h⟩
def Sub (Z H : Hp) : Prop := ∀ a o, Z a = some o → Rdd H a o
theorem Sub.lst {a : Addr} {us : List V} (s : Sub Z H) (h : Z a = some (.lst us)) : H a = some (.lst us) := by
  rcases s a _ h with h | ⟨h, _⟩
  · exact h
  · cases h
theorem Sub.tup {a : Addr} {us : List V} (s : Sub Z H) (h : Z a = some (.tup us)) : H a = some (.tup us) := by
  rcases s a _ h with h | ⟨h, _⟩
  · exact h
  · cases h
theorem Sub.sqT {a : Addr} {us : List V} (s : Sub Z H) (h : SqT K Z a us) : SqT K H a us := by
  rcases h with (h | ⟨o, h⟩) | h
  · rcases s a _ h with h | ⟨h, _⟩
    · exact .inl (.inl h)
    · cases h
  · rcases s a _ h with h | ⟨h, _⟩
    · exact .inl (.inr ⟨o, h⟩)
    · cases h
  · exact .inr h
theorem Sub.sqL {a : Addr} {us : List V} (s : Sub Z H) (h : SqL K Z a us) : SqL K H a us := by
  rcases h with (h | ⟨o, h⟩) | h
  · rcases s a _ h with h | ⟨h, _⟩
    · exact .inl (.inl h)
    · cases h
  · rcases s a _ h with h | ⟨h, _⟩
    · exact .inl (.inr ⟨o, h⟩)
    · cases h
  · exact .inr h
mutual
/-- HandS's own reading of data without dicts -/
theorem DR.dp (s : Sub Z H) : ∀ (x : PyData) (u : V), x.canLay0 = true → DR Z x u → Dp K H u x
  | .none, u, _, h => by simp only [DR] at h; subst h; exact .non
  | .bool _, u, _, h => by simp only [DR] at h; subst h; exact .bl _
  | .int _, u, _, h => by simp only [DR] at h; subst h; exact .int _
  | .str _, u, _, h => by simp only [DR] at h; subst h; exact .str _
  | .list xs, u, c, h => by
    simp only [DR] at h
    obtain ⟨a, us, rfl, hz, hs⟩ := h
    exact .lst (SqL.of (s.lst hz)) (DRs.dp s xs us (by simpa [PyData.canLay0] using c) hs)
  | .tuple xs, u, c, h => by
    simp only [DR] at h
    obtain ⟨a, us, rfl, hz, hs⟩ := h
    exact .tup (SqT.of (s.tup hz)) (DRs.dp s xs us (by simpa [PyData.canLay0] using c) hs)
  | .dict kvs, u, c, h => by simp [PyData.canLay0] at c
theorem DRs.dp (s : Sub Z H) : ∀ (xs : List PyData) (us : List V), PyData.canLayAll0 xs = true → DRs Z xs us → DpAll K H us xs
  | [], us, _, h => by rw [DRs.nil_iff.mp h]; exact .nil
  | x :: xs, us, c, h => by
    obtain ⟨u, r, rfl, h1, t⟩ := DRs.cons_iff.mp h
    rw [PyData.canLayAll0, Bool.and_eq_true] at c
    exact .cons (DR.dp s x u c.1 h1) (DRs.dp s xs r c.2 t)
end
end
end Mp
end
section
set_option autoImplicit false
set_option linter.all false
set_option maxRecDepth 100000
/-! Mp2: the store in the abstract heap; what an expression of the small Python means as a reading. -/
namespace Mp
open PySem PySem.Spec PyProof.Rows L2
section
variable (K : PySem.W.Frag)
/-- what a cell holds stands at a -/
def OR (Z : Hp) : Ob → Hp → Addr → Prop
  | .l xs, H, a => ∃ us, H a = some (.lst us) ∧ DRs Z xs us
  | .m kvs, H, a => (∃ ws, H a = some (.dK ws) ∧ DRk Z kvs ws) ∨ ∃ ws, H a = some (.dT ws) ∧ DRt Z kvs ws
structure Rel (m : List Addr) (Z : Hp) (S : Store) (H : Hp) : Prop where
  sub : Sub Z H
  len : m.length = S.length
  cell : ∀ (i : Nat) (o : Ob) (a : Addr), S[i]? = some (some o) → m[i]? = some a → OR Z o H a ∧ Z a = none
  inj : ∀ (i j : Nat) (o o' : Ob) (a : Addr), S[i]? = some (some o) → S[j]? = some (some o') → m[i]? = some a → m[j]? = some a → i = j
  al : ∀ a ∈ m, ∃ o, H a = some o
def VR (m : List Addr) (Z : Hp) : Val → V → Prop
  | .d x, u => DR Z x u
  | .c i, u => ∃ a, m[i]? = some a ∧ u = .ref a
  | .scr ns, u => ∃ a, u = .ref a ∧ SqL K Z a (ns.map V.int)
def VRs (m : List Addr) (Z : Hp) : List Val → List V → Prop := Paired (VR K m Z)
structure ERel (m : List Addr) (Z : Hp) (env : Env) (σ : L2.St) : Prop where
  len : env.length = σ.length
  get : ∀ (i : Nat) (v : Val), env[i]? = some (some v) → ∃ u, σ[i]? = some (some u) ∧ VR K m Z v u
end
/-- what has come behind: cells and frozen things stay, all else that is tracked stands as it stood -/
structure Nxt (m : List Addr) (Z H : Hp) (m' : List Addr) (Z' H' : Hp) : Prop where
  pre : ∃ t, m' = m ++ t
  zle : Le Z Z'
  keep : ∀ a o, H a = some o → a ∉ m → H' a = some o
  new : ∀ a, a ∈ m' → a ∈ m ∨ H a = none
  znew : ∀ a o, Z' a = some o → Z a = some o ∨ a ∈ m ∨ H a = none
section
variable {K : PySem.W.Frag} {m m' m1 : List Addr} {Z Z' Z1 H H' H1 : Hp} {S S' : Store} {env : Env} {σ : L2.St}
theorem Nxt.refl : Nxt m Z H m Z H := ⟨⟨[], by simp⟩, Le.refl _, fun _ _ h _ => h, fun _ h => .inl h, fun _ _ h => .inl h⟩
theorem Nxt.trans (x : Nxt m Z H m1 Z1 H1) (y : Nxt m1 Z1 H1 m' Z' H') : Nxt m Z H m' Z' H' := by
  obtain ⟨t, e⟩ := x.pre
  obtain ⟨t', e'⟩ := y.pre
  refine ⟨⟨t ++ t', by rw [e', e, List.append_assoc]⟩, x.zle.trans y.zle, fun a o h ha => ?_, fun a ha => ?_, fun a o ha => ?_⟩
  · refine y.keep a o (x.keep a o h ha) fun h1 => ?_
    rcases x.new a h1 with h2 | h2
    · exact ha h2
    · rw [h2] at h; cases h
  · rcases y.new a ha with h | h
    · exact x.new a h
    · cases e : H a with
      | none => exact .inr rfl
      | some o =>
        by_cases hm : a ∈ m
        · exact .inl hm
        · rw [x.keep a o e hm] at h; cases h
  · rcases y.znew a o ha with h | h | h
    · exact x.znew a o h
    · exact .inr (x.new a h)
    · cases e : H a with
      | none => exact .inr (.inr rfl)
      | some o =>
        by_cases hm : a ∈ m
        · exact .inr (.inl hm)
        · rw [x.keep a o e hm] at h; cases h
theorem VR.nxt {v : Val} {u : V} (n : Nxt m Z H m' Z' H') (h : VR K m Z v u) : VR K m' Z' v u := by
  cases v with
  | d x => exact DR.le n.zle x u h
  | c i =>
    obtain ⟨a, h1, h2⟩ := h
    obtain ⟨t, e⟩ := n.pre
    refine ⟨a, ?_, h2⟩
    rw [e, List.getElem?_append_left (by exact (List.getElem?_eq_some_iff.mp h1).1)]
    exact h1
  | scr ns =>
    obtain ⟨a, h1, h2⟩ := h
    exact ⟨a, h1, SqL.le h2 n.zle⟩
theorem VRs.nxt {vs : List Val} {us : List V} (n : Nxt m Z H m' Z' H') (h : VRs K m Z vs us) : VRs K m' Z' vs us := Paired.mapP h fun _ _ q => VR.nxt n q
theorem ERel.nxt (n : Nxt m Z H m' Z' H') (h : ERel K m Z env σ) : ERel K m' Z' env σ :=
  ⟨h.len, fun i v e => by
    obtain ⟨u, a, b⟩ := h.get i v e
    exact ⟨u, a, VR.nxt n b⟩⟩
theorem ERel.set {v : Val} {u : V} (h : ERel K m Z env σ) (i : Nat) (r : VR K m Z v u) : ERel K m Z (env.set i (some v)) (σ.set i (some u)) := by
  refine ⟨by rw [List.length_set, List.length_set, h.len], fun j w e => ?_⟩
  by_cases hj : i = j
  · subst hj
    by_cases hl : i < env.length
    · rw [List.getElem?_set_self hl] at e
      cases e
      exact ⟨u, by rw [List.getElem?_set_self (by rw [← h.len]; exact hl)], r⟩
    · rw [List.getElem?_eq_none (by simpa using hl)] at e; cases e
  · rw [List.getElem?_set_ne hj] at e
    rw [List.getElem?_set_ne hj]
    exact h.get j w e
theorem ERel.unset (h : ERel K m Z env σ) (i : Nat) : ERel K m Z (env.set i none) (σ.set i none) := by
  refine ⟨by rw [List.length_set, List.length_set, h.len], fun j w e => ?_⟩
  by_cases hj : i = j
  · subst hj
    by_cases hl : i < env.length
    · rw [List.getElem?_set_self hl] at e; cases e
    · rw [List.getElem?_eq_none (by simpa using hl)] at e; cases e
  · rw [List.getElem?_set_ne hj] at e
    rw [List.getElem?_set_ne hj]
    exact h.get j w e
theorem ERel.wipe (h : ERel K m Z env σ) : ∀ vs : List Nat, ERel K m Z (wipeE env vs) (wipe σ vs)
  | [] => h
  | v :: vs => ERel.unset (ERel.wipe h vs) v
/-- the store's cells where one reads -/
theorem Rel.at_ (r : Rel m Z S H) {i : Nat} {o : Ob} {u : V} (e : S[i]? = some (some o)) (v : VR K m Z (.c i) u) : ∃ a, u = .ref a ∧ m[i]? = some a ∧ OR Z o H a ∧ Z a = none := by
  obtain ⟨a, h1, h2⟩ := v
  exact ⟨a, h2, h1, r.cell i o a e h1⟩
/-! ### new things -/
theorem Le.upd {p : Addr} {o : HO} (h : Z p = none) : Le Z (upd Z p o) := fun a u e => by
  have hn : a ≠ p := by
    rintro rfl
    rw [h] at e; cases e
  rw [upd_ne hn]; exact e
theorem Sub.upd {p : Addr} {o : HO} (s : Sub Z H) (h : H p = none) : Sub Z (L2.upd H p o) := fun a u e => by
  have hn : a ≠ p := by
    rintro rfl
    rcases s _ _ e with q | ⟨_, _, q⟩ <;> rw [h] at q <;> cases q
  exact .at_ne hn (s a u e)
theorem Sub.upd2 {p : Addr} {o : HO} (s : Sub Z H) : Sub (L2.upd Z p o) (L2.upd H p o) := fun a u e => by
  by_cases hn : a = p
  · subst hn
    rw [upd_same] at e
    exact .inl (by rw [upd_same]; exact e)
  · rw [upd_ne hn] at e
    exact .at_ne hn (s a u e)
theorem Rel.zfree (r : Rel m Z S H) {p : Addr} (h : H p = none) : Z p = none := by
  cases e : Z p with
  | none => rfl
  | some o => rcases r.sub p o e with q | ⟨_, _, q⟩ <;> rw [h] at q <;> cases q
theorem OR.mono {o : Ob} {a : Addr} (h : OR Z o H a) (l : Le Z Z') (k : ∀ u, H a = some u → H' a = some u) : OR Z' o H' a := by
  cases o with
  | l xs =>
    obtain ⟨us, h1, h2⟩ := h
    exact ⟨us, k _ h1, DRs.le l _ _ h2⟩
  | m kvs =>
    rcases h with ⟨ws, h1, h2⟩ | ⟨ws, h1, h2⟩
    · exact .inl ⟨ws, k _ h1, DRk.le l _ _ h2⟩
    · exact .inr ⟨ws, k _ h1, DRt.le l _ _ h2⟩
theorem OR.some {o : Ob} {a : Addr} (h : OR Z o H a) : ∃ u, H a = some u := by
  cases o with
  | l xs => exact ⟨_, h.choose_spec.1⟩
  | m kvs =>
    rcases h with ⟨ws, h1, h2⟩ | ⟨ws, h1, h2⟩
    · exact ⟨_, h1⟩
    · exact ⟨_, h1⟩
theorem upd_some {a p : Addr} {o : HO} (h : ∃ u, H a = some u) : ∃ u, upd H p o a = some u := by
  by_cases e : a = p
  · exact ⟨o, by rw [e, upd_same]⟩
  · rw [upd_ne e]; exact h
/-- a thing that never changes is laid at p -/
theorem Rel.newZ (r : Rel m Z S H) {p : Addr} {o : HO} (h : H p = none) : Rel m (upd Z p o) S (upd H p o) ∧ Nxt m Z H m (upd Z p o) (upd H p o) := by
  have hz := r.zfree h
  refine ⟨⟨Sub.upd2 r.sub, r.len, fun i q a e1 e2 => ?_, r.inj, fun a ha => upd_some (r.al a ha)⟩, ⟨⟨[], by simp⟩, Le.upd hz, fun a u e _ => ?_, fun a ha => .inl ha, fun a u e => ?_⟩⟩
  · obtain ⟨h1, h2⟩ := r.cell i q a e1 e2
    have hn : a ≠ p := by
      rintro rfl
      obtain ⟨u, hu⟩ := h1.some
      rw [h] at hu; cases hu
    exact ⟨h1.mono (Le.upd hz) fun u e => by rw [upd_ne hn]; exact e, by rw [upd_ne hn]; exact h2⟩
  · have hn : a ≠ p := by
      rintro rfl
      rw [h] at e; cases e
    rw [upd_ne hn]; exact e
  · by_cases hn : a = p
    · exact .inr (.inr (by rw [hn]; exact h))
    · rw [upd_ne hn] at e; exact .inl e
/-- a thing that is not watched is laid at p -/
theorem Rel.newH (r : Rel m Z S H) {p : Addr} {o : HO} (h : H p = none) : Rel m Z S (upd H p o) ∧ Nxt m Z H m Z (upd H p o) := by
  refine ⟨⟨Sub.upd r.sub h, r.len, fun i q a e1 e2 => ?_, r.inj, fun a ha => upd_some (r.al a ha)⟩, ⟨⟨[], by simp⟩, Le.refl _, fun a u e _ => ?_, fun a ha => .inl ha, fun _ _ e => .inl e⟩⟩
  · obtain ⟨h1, h2⟩ := r.cell i q a e1 e2
    have hn : a ≠ p := by
      rintro rfl
      obtain ⟨u, hu⟩ := h1.some
      rw [h] at hu; cases hu
    exact ⟨h1.mono (Le.refl _) fun u e => by rw [upd_ne hn]; exact e, h2⟩
  · have hn : a ≠ p := by
      rintro rfl
      rw [h] at e; cases e
    rw [upd_ne hn]; exact e
theorem getElem?_snoc {α : Type} {l : List α} {x y : α} {i : Nat} (h : (l ++ [x])[i]? = some y) : l[i]? = some y ∨ (i = l.length ∧ x = y) := by
  by_cases hi : i < l.length
  · rw [List.getElem?_append_left hi] at h; exact .inl h
  · rw [List.getElem?_append_right (by omega)] at h
    have : i - l.length = 0 := by
      cases e : i - l.length with
      | zero => rfl
      | succ n => rw [e] at h; simp at h
    rw [this] at h
    simp at h
    exact .inr ⟨by omega, h⟩
/-- a thing at a that nobody watches becomes a cell -/
theorem Rel.cellNew (r : Rel m Z S H) {a : Addr} {o : Ob} (ho : OR Z o H a) (hz : Z a = none) (hm : a ∉ m) :
    Rel (m ++ [a]) Z (S ++ [some o]) H := by
  refine ⟨r.sub, by rw [List.length_append, List.length_append, r.len]; rfl, fun i q b e1 e2 => ?_, fun i j q q' b e1 e2 e3 e4 => ?_, fun b hb => ?_⟩
  · rcases getElem?_snoc e1 with e1 | ⟨e1, e1'⟩
    · rcases getElem?_snoc e2 with e2 | ⟨e2, _⟩
      · exact r.cell i q b e1 e2
      · have := (List.getElem?_eq_some_iff.mp e1).1
        rw [e2, r.len] at this
        omega
    · rcases getElem?_snoc e2 with e2 | ⟨e2, e2'⟩
      · have := (List.getElem?_eq_some_iff.mp e2).1
        rw [r.len, e1] at this
        omega
      · cases e1'
        subst e2'
        exact ⟨ho, hz⟩
  · have case1 : ∀ {i : Nat} {q : Ob}, (S ++ [some o])[i]? = some (some q) → (m ++ [a])[i]? = some b → (S[i]? = some (some q) ∧ m[i]? = some b) ∨ (i = S.length ∧ a = b) := by
      intro i q f1 f2
      rcases getElem?_snoc f1 with f1 | ⟨f1, f1'⟩
      · rcases getElem?_snoc f2 with f2 | ⟨f2, _⟩
        · exact .inl ⟨f1, f2⟩
        · have := (List.getElem?_eq_some_iff.mp f1).1
          rw [f2, r.len] at this
          omega
      · rcases getElem?_snoc f2 with f2 | ⟨f2, f2'⟩
        · have := (List.getElem?_eq_some_iff.mp f2).1
          rw [r.len, f1] at this
          omega
        · exact .inr ⟨f1, f2'⟩
    rcases case1 e1 e3 with ⟨g1, g3⟩ | ⟨g1, g3⟩
    · rcases case1 e2 e4 with ⟨g2, g4⟩ | ⟨g2, g4⟩
      · exact r.inj i j q q' b g1 g2 g3 g4
      · exact absurd (g4 ▸ List.mem_of_getElem? g3) hm
    · rcases case1 e2 e4 with ⟨g2, g4⟩ | ⟨g2, g4⟩
      · exact absurd (g3 ▸ List.mem_of_getElem? g4) hm
      · omega
  · rcases List.mem_append.mp hb with hb | hb
    · exact r.al b hb
    · rw [List.mem_singleton] at hb
      rw [hb]
      exact ho.some
/-- a cell's thing is changed -/
theorem Rel.cellSet (r : Rel m Z S H) {i : Nat} {a : Addr} {o o' : Ob} {ho : HO} (e : S[i]? = some (some o)) (ha : m[i]? = some a) (new : OR Z o' (upd H a ho) a) :
    Rel m Z (S.set i (some o')) (upd H a ho) ∧ Nxt m Z H m Z (upd H a ho) := by
  obtain ⟨c1, c2⟩ := r.cell i o a e ha
  have hi := (List.getElem?_eq_some_iff.mp e).1
  refine ⟨⟨fun b u q => ?_, by rw [List.length_set]; exact r.len, fun j q b e1 e2 => ?_, fun j k q q' b e1 e2 e3 e4 => ?_, fun b hb => upd_some (r.al b hb)⟩, ⟨⟨[], by simp⟩, Le.refl _, fun b u q hb => ?_, fun b hb => .inl hb, fun _ _ e => .inl e⟩⟩
  · have hn : b ≠ a := by
      rintro rfl
      rw [c2] at q; cases q
    exact .at_ne hn (r.sub b u q)
  · by_cases hj : i = j
    · subst hj
      rw [List.getElem?_set_self hi] at e1
      cases e1
      rw [ha] at e2
      cases e2
      exact ⟨new, c2⟩
    · rw [List.getElem?_set_ne hj] at e1
      obtain ⟨d1, d2⟩ := r.cell j q b e1 e2
      have hn : b ≠ a := by
        rintro rfl
        exact hj (r.inj i j o q b e e1 ha e2)
      exact ⟨d1.mono (Le.refl _) fun u q => by rw [upd_ne hn]; exact q, d2⟩
  · have back : ∀ {j : Nat} {q : Ob}, (S.set i (some o'))[j]? = some (some q) → ∃ q', S[j]? = some (some q') := by
      intro j q f
      by_cases hj : i = j
      · subst hj; exact ⟨o, e⟩
      · rw [List.getElem?_set_ne hj] at f; exact ⟨q, f⟩
    obtain ⟨q1, f1⟩ := back e1
    obtain ⟨q2, f2⟩ := back e2
    exact r.inj j k q1 q2 b f1 f2 e3 e4
  · have hn : b ≠ a := by
      rintro rfl
      exact hb (List.mem_of_getElem? ha)
    rw [upd_ne hn]; exact q
/-- a cell's thing changes no more: it is data from now on -/
theorem Rel.cellOwn (r : Rel m Z S H) {i : Nat} {a : Addr} {o : Ob} {ho : HO} (e : S[i]? = some (some o)) (ha : m[i]? = some a) (hh : H a = some ho) :
    Rel m (upd Z a ho) (S.set i none) H ∧ Nxt m Z H m (upd Z a ho) H := by
  obtain ⟨c1, c2⟩ := r.cell i o a e ha
  have hi := (List.getElem?_eq_some_iff.mp e).1
  have back : ∀ {j : Nat} {q : Ob}, (S.set i none)[j]? = some (some q) → i ≠ j ∧ S[j]? = some (some q) := by
    intro j q f
    by_cases hj : i = j
    · subst hj
      rw [List.getElem?_set_self hi] at f; cases f
    · rw [List.getElem?_set_ne hj] at f; exact ⟨hj, f⟩
  refine ⟨⟨fun b u q => ?_, by rw [List.length_set]; exact r.len, fun j q b e1 e2 => ?_, fun j k q q' b e1 e2 e3 e4 => ?_, r.al⟩, ⟨⟨[], by simp⟩, Le.upd c2, fun b u q _ => q, fun b hb => .inl hb, fun b u q => ?_⟩⟩
  · by_cases hn : b = a
    · subst hn
      rw [upd_same] at q
      cases q
      exact .inl hh
    · rw [upd_ne hn] at q; exact r.sub b u q
  · obtain ⟨hj, f⟩ := back e1
    obtain ⟨d1, d2⟩ := r.cell j q b f e2
    have hn : b ≠ a := by
      rintro rfl
      exact hj (r.inj i j o q b e f ha e2)
    exact ⟨d1.mono (Le.upd c2) fun u q => q, by rw [upd_ne hn]; exact d2⟩
  · exact r.inj j k q q' b (back e1).2 (back e2).2 e3 e4
  · by_cases hn : b = a
    · exact .inr (.inl (by rw [hn]; exact List.mem_of_getElem? ha))
    · rw [upd_ne hn] at q; exact .inl q
end
section
variable {K : PySem.W.Frag} {m m' m1 : List Addr} {Z Z' Z1 H H' H1 : Hp} {S S' : Store}
/-- a thing that stands there, watched by nobody, becomes data -/
theorem Rel.fixZ (r : Rel m Z S H) {p : Addr} {o : HO} (h : H p = some o) (hm : p ∉ m) (hz : Z p = none) : Rel m (upd Z p o) S H := by
  refine ⟨fun a u e => ?_, r.len, fun i q a e1 e2 => ?_, r.inj, r.al⟩
  · by_cases hn : a = p
    · subst hn
      rw [upd_same] at e
      cases e
      exact .inl h
    · rw [upd_ne hn] at e; exact r.sub a u e
  · obtain ⟨h1, h2⟩ := r.cell i q a e1 e2
    have hn : a ≠ p := by
      rintro rfl
      exact hm (List.mem_of_getElem? e2)
    exact ⟨h1.mono (Le.upd hz) fun u e => e, by rw [upd_ne hn]; exact h2⟩
theorem Nxt.fixZ (n : Nxt m Z H m' Z' H') {p : Addr} {o : HO} (h : H p = none) (hz : Z' p = none) : Nxt m Z H m' (upd Z' p o) H' := by
  refine ⟨n.pre, n.zle.trans (Le.upd hz), n.keep, n.new, fun a u e => ?_⟩
  by_cases hn : a = p
  · exact .inr (.inr (by rw [hn]; exact h))
  · rw [upd_ne hn] at e; exact n.znew a u e
/-- a thing watched by nobody is changed -/
theorem Rel.put (r : Rel m Z S H) {p : Addr} {o : HO} (hm : p ∉ m) (hz : Z p = none) : Rel m Z S (upd H p o) := by
  refine ⟨fun a u e => ?_, r.len, fun i q a e1 e2 => ?_, r.inj, fun a ha => upd_some (r.al a ha)⟩
  · have hn : a ≠ p := by
      rintro rfl
      rw [hz] at e; cases e
    exact .at_ne hn (r.sub a u e)
  · obtain ⟨h1, h2⟩ := r.cell i q a e1 e2
    have hn : a ≠ p := by
      rintro rfl
      exact hm (List.mem_of_getElem? e2)
    exact ⟨h1.mono (Le.refl _) fun u e => by rw [upd_ne hn]; exact e, h2⟩
/-- .. behind which all stands as ever, but that thing, new since the start -/
theorem Nxt.put (n : Nxt m Z H m' Z' H') {p : Addr} {o : HO} (h : H p = none) : Nxt m Z H m' Z' (upd H' p o) := by
  refine ⟨n.pre, n.zle, fun a u e ha => ?_, n.new, n.znew⟩
  have hn : a ≠ p := by
    rintro rfl
    rw [h] at e; cases e
  rw [upd_ne hn]; exact n.keep a u e ha
/-- what nobody watches is nobody's later -/
theorem Nxt.apart (n : Nxt m Z H m' Z' H') {p : Addr} {o : HO} (h : H p = some o) (hm : p ∉ m) (hz : Z p = none) : H' p = some o ∧ p ∉ m' ∧ Z' p = none := by
  refine ⟨n.keep p o h hm, fun e => ?_, ?_⟩
  · rcases n.new p e with q | q
    · exact hm q
    · rw [h] at q; cases q
  · cases e : Z' p with
    | none => rfl
    | some u =>
      rcases n.znew p u e with q | q | q
      · rw [hz] at q; cases q
      · exact absurd q hm
      · rw [h] at q; cases q
end
/-! ### the reading of an expression -/
section
variable (K : PySem.W.Frag) (Γ : Nat → List Val → M Val) (gl : List PyData)
/-- what is wanted behind a value -/
def Fin_ (K : PySem.W.Frag) (m : List Addr) (Z H : Hp) (S' : Store) (v : Val) (Q : VK) : Prop := ∀ u m' Z' H', Nxt m Z H m' Z' H' → Rel m' Z' S' H' → VR K m' Z' v u → Q u H'
def semE (e : Ex) : TE := fun σ H Q => ∃ env S v S' m Z, eval Γ gl e env S = .ok v S' ∧ Rel m Z S H ∧ ERel K m Z env σ ∧ Fin_ K m Z H S' v Q
def semT (e : Ex) : TT := fun σ H Q => ∃ env S b S' m Z, eval Γ gl e env S = .ok (.d (.bool b)) S' ∧ Rel m Z S H ∧ ERel K m Z env σ ∧ ∀ m' Z' H', Nxt m Z H m' Z' H' → Rel m' Z' S' H' → Q b H'
end
section
variable {X : Cx} {e : Expr} {t t' : TE}
theorem PE.imp (h : PE X e t) (w : ∀ σ H Q, t' σ H Q → t σ H Q) : PE X e t' := ⟨fun pins s σ H Q I q => h.run pins s σ H Q I (w σ H Q q)⟩
theorem PT.imp {t t' : TT} (h : PT X e t) (w : ∀ σ H Q, t' σ H Q → t σ H Q) : PT X e t' := ⟨fun pins s σ H Q I q => h.run pins s σ H Q I (w σ H Q q)⟩
end
section
variable {K : PySem.W.Frag} {Γ : Nat → List Val → M Val} {gl : List PyData} {m : List Addr} {Z H : Hp} {S S1 : Store} {env : Env} {σ : L2.St} {v : Val} {e : Ex}
/-- a part is evaluated -/
theorem semE.at_ {Q : VK} (h : eval Γ gl e env S = .ok v S1) (r : Rel m Z S H) (w : ERel K m Z env σ)
    (k : ∀ u m1 Z1 H1, Nxt m Z H m1 Z1 H1 → Rel m1 Z1 S1 H1 → ERel K m1 Z1 env σ → VR K m1 Z1 v u → Q u H1) : semE K Γ gl e σ H Q :=
  ⟨env, S, v, S1, m, Z, h, r, w, fun u m' Z' H' n r' q => k u m' Z' H' n r' (w.nxt n) q⟩
theorem semT.at_ {b : Bool} {Q : Bool → Hp → Prop} (h : eval Γ gl e env S = .ok (.d (.bool b)) S1) (r : Rel m Z S H) (w : ERel K m Z env σ)
    (k : ∀ m1 Z1 H1, Nxt m Z H m1 Z1 H1 → Rel m1 Z1 S1 H1 → ERel K m1 Z1 env σ → Q b H1) : semT K Γ gl e σ H Q :=
  ⟨env, S, b, S1, m, Z, h, r, w, fun m' Z' H' n r' => k m' Z' H' n r' (w.nxt n)⟩
theorem bnd_ok {α β : Type} {a : M α} {f : α → M β} {S : Store} {y : β} {S' : Store} (h : bnd a f S = .ok y S') : ∃ x S1, a S = .ok x S1 ∧ f x S1 = .ok y S' := by
  unfold bnd at h
  cases e : a S with
  | ok x S1 => rw [e] at h; exact ⟨x, S1, rfl, h⟩
  | ex k v S1 => rw [e] at h; cases h
  | no => rw [e] at h; cases h
theorem ret_ok {α : Type} {a b : α} {S S' : Store} (h : ret a S = .ok b S') : b = a ∧ S' = S := by
  unfold ret at h
  cases h
  exact ⟨rfl, rfl⟩
theorem guard_ok {b : Bool} {S S' : Store} {u : Unit} (h : guard b S = .ok u S') : b = true ∧ S' = S := by
  unfold guard at h
  split at h
  · cases h; exact ⟨by assumption, rfl⟩
  · cases h
theorem no_ok {α : Type} {a : α} {S S' : Store} (h : (no : M α) S = .ok a S') : False := by
  unfold no at h
  cases h
end
end Mp
end
section
set_option autoImplicit false
set_option linter.all false
set_option maxRecDepth 100000
set_option maxHeartbeats 4000000
/-! Mp3: the operators on values. -/
namespace Mp
open PySem PySem.Spec PyProof.Rows L2
section
variable (K : PySem.W.Frag)
/-- a value that is looked at: data, or what a cell holds now -/
def PR (Z H : Hp) : PyData → V → Prop
  | .list xs, u => ∃ a us, u = .ref a ∧ H a = some (.lst us) ∧ DRs Z xs us
  | .dict kvs, u => ∃ a, u = .ref a ∧ ((∃ ws, Rdd H a (.dK ws) ∧ DRk Z kvs ws) ∨ ∃ ws, Rdd H a (.dT ws) ∧ DRt Z kvs ws)
  | x, u => DR Z x u
/-- what is wanted behind an operation that gives the data x -/
def RQ (m : List Addr) (Z H : Hp) (S : Store) (x : PyData) (Q : VK) : Prop := ∀ u Z' H', Nxt m Z H m Z' H' → Rel m Z' S H' → DR Z' x u → Q u H'
end
section
variable {K : PySem.W.Frag} {m : List Addr} {Z Z' H H' : Hp} {S S' : Store} {x y : PyData} {u w : V} {Q : VK}
theorem DR.pr (s : Sub Z H) (h : DR Z x u) : PR Z H x u := by
  cases x with
  | list xs =>
    simp only [DR] at h
    obtain ⟨a, us, e, hz, hs⟩ := h
    exact ⟨a, us, e, s.lst hz, hs⟩
  | dict kvs =>
    simp only [DR] at h
    obtain ⟨a, e, ⟨ws, hz, hs⟩ | ⟨ws, hz, hs⟩⟩ := h
    · exact ⟨a, e, .inl ⟨ws, s _ _ hz, hs⟩⟩
    · exact ⟨a, e, .inr ⟨ws, s _ _ hz, hs⟩⟩
  | _ => exact h
theorem PR.dp (s : Sub Z H) (c : x.canLay0 = true) (h : PR Z H x u) : Dp K H u x := by
  cases x with
  | list xs =>
    obtain ⟨a, us, rfl, hz, hs⟩ := h
    exact .lst (SqL.of hz) (DRs.dp s xs us (by simpa [PyData.canLay0] using c) hs)
  | dict kvs => simp [PyData.canLay0] at c
  | _ => exact DR.dp s _ _ c h
theorem peek_ok {v : Val} (h : peek v S = .ok x S') : S' = S ∧ ∀ {m Z H u}, Rel m Z S H → VR K m Z v u → PR Z H x u := by
  cases v with
  | d z =>
    obtain ⟨rfl, rfl⟩ := ret_ok h
    exact ⟨rfl, fun r q => DR.pr r.sub q⟩
  | c i =>
    unfold peek at h
    simp only at h
    split at h
    · rename_i xs e
      cases h
      refine ⟨rfl, fun r q => ?_⟩
      obtain ⟨a, rfl, _, ⟨us, h1, h2⟩, _⟩ := r.at_ e q
      exact ⟨a, us, rfl, h1, h2⟩
    · rename_i kvs e
      cases h
      refine ⟨rfl, fun r q => ?_⟩
      obtain ⟨a, rfl, _, ho, _⟩ := r.at_ e q
      rcases ho with ⟨ws, h1, h2⟩ | ⟨ws, h1, h2⟩
      · exact ⟨a, rfl, .inl ⟨ws, .inl h1, h2⟩⟩
      · exact ⟨a, rfl, .inr ⟨ws, .inl h1, h2⟩⟩
    · cases h
  | scr ns => exact nomatch (show (R.no : R PyData) = .ok x S' from h)
theorem own_ok {v : Val} (h : own v S = .ok x S') (r : Rel m Z S H) (q : VR K m Z v u) : ∃ Z', Rel m Z' S' H ∧ Nxt m Z H m Z' H ∧ DR Z' x u := by
  cases v with
  | d z =>
    obtain ⟨rfl, rfl⟩ := ret_ok h
    exact ⟨Z, r, .refl, q⟩
  | c i =>
    unfold own at h
    simp only at h
    split at h
    · rename_i xs e
      cases h
      obtain ⟨a, rfl, ha, ⟨us, h1, h2⟩, hz⟩ := r.at_ e q
      obtain ⟨r', n'⟩ := r.cellOwn e ha h1
      refine ⟨_, r', n', ?_⟩
      simp only [DR]
      exact ⟨a, us, rfl, upd_same, DRs.le n'.zle _ _ h2⟩
    · rename_i kvs e
      cases h
      obtain ⟨a, rfl, ha, ho, hz⟩ := r.at_ e q
      rcases ho with ⟨ws, h1, h2⟩ | ⟨ws, h1, h2⟩
      · obtain ⟨r', n'⟩ := r.cellOwn e ha h1
        refine ⟨_, r', n', ?_⟩
        simp only [DR]
        exact ⟨a, rfl, .inl ⟨ws, upd_same, DRk.le n'.zle _ _ h2⟩⟩
      · obtain ⟨r', n'⟩ := r.cellOwn e ha h1
        refine ⟨_, r', n', ?_⟩
        simp only [DR]
        exact ⟨a, rfl, .inr ⟨ws, upd_same, DRt.le n'.zle _ _ h2⟩⟩
    · cases h
  | scr ns => exact nomatch (show (R.no : R PyData) = .ok x S' from h)
theorem PR.nxt {m' : List Addr} (n : Nxt m Z H m' Z' H') (s : Sub Z' H') (h : DR Z x u) : PR Z' H' x u := DR.pr s (DR.le n.zle x u h)
/-! ### ends -/
theorem RQ.here (r : Rel m Z S H) (q : RQ m Z H S x Q) (h : DR Z x u) : Q u H := q u Z H .refl r h
theorem RQ.int {i : Int} (r : Rel m Z S H) (q : RQ m Z H S (.int i) Q) : Q (.int i) H := RQ.here r q (by simp only [DR])
theorem RQ.bl {b : Bool} (r : Rel m Z S H) (q : RQ m Z H S (.bool b) Q) : Q (.bl b) H := RQ.here r q (by simp only [DR])
theorem RQ.str {s : Str} (r : Rel m Z S H) (q : RQ m Z H S (.str s) Q) : Q (.str s) H := RQ.here r q (by simp only [DR])
theorem RQ.non (r : Rel m Z S H) (q : RQ m Z H S .none Q) : Q .non H := RQ.here r q (by simp only [DR])
theorem RQ.lst {xs : List PyData} {us : List V} (r : Rel m Z S H) (q : RQ m Z H S (.list xs) Q) (h : DRs Z xs us) {p : Addr} (hp : H p = none) : Q (.ref p) (upd H p (.lst us)) := by
  obtain ⟨r', n'⟩ := r.newZ (o := .lst us) hp
  refine q _ _ _ n' r' ?_
  simp only [DR]
  exact ⟨p, us, rfl, upd_same, DRs.le n'.zle _ _ h⟩
theorem RQ.tup {xs : List PyData} {us : List V} (r : Rel m Z S H) (q : RQ m Z H S (.tuple xs) Q) (h : DRs Z xs us) {p : Addr} (hp : H p = none) : Q (.ref p) (upd H p (.tup us)) := by
  obtain ⟨r', n'⟩ := r.newZ (o := .tup us) hp
  refine q _ _ _ n' r' ?_
  simp only [DR]
  exact ⟨p, us, rfl, upd_same, DRs.le n'.zle _ _ h⟩
theorem PR.list_iff {xs : List PyData} : PR Z H (.list xs) u ↔ ∃ a us, u = .ref a ∧ H a = some (.lst us) ∧ DRs Z xs us := Iff.rfl
theorem PR.tup_iff {xs : List PyData} : PR Z H (.tuple xs) u ↔ ∃ a us, u = .ref a ∧ Z a = some (.tup us) ∧ DRs Z xs us := by
  show DR Z (.tuple xs) u ↔ _
  simp only [DR]
theorem PR.int_iff {i : Int} : PR Z H (.int i) u ↔ u = .int i := by
  show DR Z (.int i) u ↔ _
  simp only [DR]
theorem PR.str_iff {s : Str} : PR Z H (.str s) u ↔ u = .str s := by
  show DR Z (.str s) u ↔ _
  simp only [DR]
theorem PR.bool_iff {b : Bool} : PR Z H (.bool b) u ↔ u = .bl b := by
  show DR Z (.bool b) u ↔ _
  simp only [DR]
theorem PR.none_iff : PR Z H .none u ↔ u = .non := by
  show DR Z .none u ↔ _
  simp only [DR]
end
/-! ### two-place operators -/
section
variable {X : Cx}
def rOr (r r' : R2) : R2 := fun x y H Q => r x y H Q ∨ r' x y H Q
def CPowW (i j : Int) : Prop := 0 ≤ j ∧ j ≤ 100 ∧ bits i < 256
theorem op_powW : OpR X (binaryOp .Pow) (rI CPowW fun i j => .int (i ^ j.toNat)) := opI fun i j _ _ _ _ _ hc q => by
  obtain ⟨h0, h1, h2⟩ := hc
  refine pow_int h0 ?_ q
  have hb : Builtin.Int.intBits i ≤ i.natAbs.log2 + 1 := by
    unfold Builtin.Int.intBits
    split <;> omega
  unfold bits at h2
  have : (Builtin.Int.intBits i : Int) * j ≤ 257 * 100 := by
    refine Int.mul_le_mul (by omega) h1 h0 (by decide)
  omega
def rAddU (K : PySem.W.Frag) : R2 := rOr (rI0 fun i j => .int (i + j)) (rOr (fun x y H Q => ∃ i j, x = .str i ∧ y = .str j ∧ i.length + j.length ≤ sizeLine ∧ Q (.str (i ++ j)) H) (rOr rCat (rCatA K)))
def rMulU : R2 := rOr (rI CMulW fun i j => .int (i * j)) rRep
def opK : BinK → Operator
  | .add => .Add | .sub => .Sub | .mul => .Mult | .fdiv => .FloorDiv | .mod => .Mod | .pow => .Pow | .band => .BitAnd | .bor => .BitOr | .shl => .LShift
def rBin (K : PySem.W.Frag) : BinK → R2
  | .add => rAddU K
  | .sub => rI0 fun i j => .int (i - j)
  | .mul => rMulU
  | .fdiv => rI CDivW fun i j => .int (i / j)
  | .mod => rI (fun _ j => 0 < j) fun i j => .int (i % j)
  | .pow => rI CPowW fun i j => .int (i ^ j.toNat)
  | .band => rI0 fun i j => .int (Builtin.bitAnd i j)
  | .bor => rI0 fun i j => .int (Builtin.bitOr i j)
  | .shl => rI CPow fun i j => .int (i * 2 ^ j.toNat)
theorem op_bin : ∀ o : BinK, OpR X (binaryOp (opK o)) (rBin X.K o)
  | .add => OpR.or op_add (OpR.or op_add_str (OpR.or op_cat op_catA))
  | .sub => op_sub
  | .mul => OpR.or op_mulW op_rep
  | .fdiv => op_fdivW
  | .mod => op_mod
  | .pow => op_powW
  | .band => op_and
  | .bor => op_or
  | .shl => op_shl
end
section
variable {K : PySem.W.Frag} {m : List Addr} {Z Z' H H' : Hp} {S S' : Store} {x y z : PyData} {u w : V} {Q : VK}
theorem mkL_ok {xs : List PyData} (h : mkL xs S = .ok z S') : z = .list xs ∧ S' = S ∧ xs.length ≤ sizeLine := by
  obtain ⟨_, S1, h1, h2⟩ := bnd_ok h
  obtain ⟨e, rfl⟩ := guard_ok h1
  obtain ⟨rfl, rfl⟩ := ret_ok h2
  exact ⟨rfl, rfl, of_decide_eq_true e⟩
theorem mkT_ok {xs : List PyData} (h : mkT xs S = .ok z S') : z = .tuple xs ∧ S' = S ∧ xs.length ≤ sizeLine := by
  obtain ⟨_, S1, h1, h2⟩ := bnd_ok h
  obtain ⟨e, rfl⟩ := guard_ok h1
  obtain ⟨rfl, rfl⟩ := ret_ok h2
  exact ⟨rfl, rfl, of_decide_eq_true e⟩
theorem add_ok (h : addD x y S = .ok z S') : S' = S ∧ ∀ {m Z H u w Q}, Rel m Z S H → PR Z H x u → PR Z H y w → RQ m Z H S z Q → rAddU K u w H Q := by
  cases x <;> cases y <;> first | exact nomatch (show (R.no : R PyData) = .ok z S' from h) | skip
  case int.int i j =>
    obtain ⟨rfl, rfl⟩ := ret_ok h
    refine ⟨rfl, fun r a b q => .inl ?_⟩
    rw [PR.int_iff] at a b
    exact ⟨i, j, a, b, RQ.int r q⟩
  case str.str i j =>
    obtain ⟨_, S1, h1, h2⟩ := bnd_ok h
    obtain ⟨e, rfl⟩ := guard_ok h1
    obtain ⟨rfl, rfl⟩ := ret_ok h2
    refine ⟨rfl, fun r a b q => .inr (.inl ?_)⟩
    rw [PR.str_iff] at a b
    exact ⟨i, j, a, b, of_decide_eq_true e, RQ.str r q⟩
  case list.list xs ys =>
    obtain ⟨rfl, rfl, hl⟩ := mkL_ok h
    refine ⟨rfl, fun r a b q => .inr (.inr (.inl ?_))⟩
    obtain ⟨a1, us, rfl, h1, h2⟩ := a
    obtain ⟨b1, ws, rfl, g1, g2⟩ := b
    refine ⟨a1, b1, us, ws, rfl, rfl, h1, g1, ?_, fun p hp => RQ.lst r q (DRs.append h2 g2) hp⟩
    rw [h2.length, g2.length]
    rwa [List.length_append] at hl
  case tuple.tuple xs ys =>
    obtain ⟨rfl, rfl, hl⟩ := mkT_ok h
    refine ⟨rfl, fun r a b q => .inr (.inr (.inr ?_))⟩
    obtain ⟨a1, us, rfl, h1, h2⟩ := PR.tup_iff.mp a
    obtain ⟨b1, ws, rfl, g1, g2⟩ := PR.tup_iff.mp b
    refine ⟨a1, b1, us, ws, rfl, rfl, SqT.of (r.sub.tup h1), SqT.of (r.sub.tup g1), ?_, fun e => ?_, fun _ e => ?_, fun _ _ p hp => RQ.tup r q (DRs.append h2 g2) hp⟩
    · rw [h2.length, g2.length]
      rwa [List.length_append] at hl
    · refine RQ.here r q ?_
      have ex : xs = [] := List.eq_nil_of_length_eq_zero (by rw [← h2.length, e]; rfl)
      simp only [DR]
      exact ⟨b1, ws, rfl, g1, by rw [ex]; exact g2⟩
    · refine RQ.here r q ?_
      have ey : ys = [] := List.eq_nil_of_length_eq_zero (by rw [← g2.length, e]; rfl)
      simp only [DR]
      exact ⟨a1, us, rfl, h1, by rw [ey, List.append_nil]; exact h2⟩
theorem DRs.rep {xs : List PyData} {us : List V} (h : DRs Z xs us) : ∀ k : Nat, DRs Z (List.replicate k xs).flatten (List.replicate k us).flatten
  | 0 => DRs.nil
  | k + 1 => by
    rw [List.replicate_succ, List.replicate_succ, List.flatten_cons, List.flatten_cons]
    exact DRs.append h (DRs.rep h k)
theorem mul_ok (h : mulD x y S = .ok z S') : S' = S ∧ ∀ {m Z H u w Q}, Rel m Z S H → PR Z H x u → PR Z H y w → RQ m Z H S z Q → rMulU u w H Q := by
  cases x <;> cases y <;> first | exact nomatch (show (R.no : R PyData) = .ok z S' from h) | skip
  case int.int i j =>
    obtain ⟨_, S1, h1, h2⟩ := bnd_ok h
    obtain ⟨e, rfl⟩ := guard_ok h1
    obtain ⟨rfl, rfl⟩ := ret_ok h2
    refine ⟨rfl, fun r a b q => .inl ?_⟩
    rw [PR.int_iff] at a b
    have e' := of_decide_eq_true e
    unfold bits at e'
    exact ⟨i, j, a, b, by unfold CMulW; omega, RQ.int r q⟩
  case list.int xs k =>
    obtain ⟨_, S1, h1, h2⟩ := bnd_ok h
    obtain ⟨e, rfl⟩ := guard_ok h1
    obtain ⟨rfl, rfl⟩ := ret_ok h2
    obtain ⟨e1, e2, e3⟩ := of_decide_eq_true e
    refine ⟨rfl, fun r a b q => .inr ?_⟩
    obtain ⟨a1, us, rfl, h1, h2⟩ := a
    rw [PR.int_iff] at b
    refine ⟨a1, k, us, rfl, b, h1, e1, e2, by rw [h2.length]; exact e3, fun p hp => RQ.lst r q (DRs.rep h2 _) hp⟩
theorem bin_ok {o : BinK} (h : binD o x y S = .ok z S') : S' = S ∧ ∀ {m Z H u w Q}, Rel m Z S H → PR Z H x u → PR Z H y w → RQ m Z H S z Q → rBin K o u w H Q := by
  cases o
  case add => exact add_ok h
  case mul => exact mul_ok h
  all_goals
    cases x <;> cases y <;> first | exact nomatch (show (R.no : R PyData) = .ok z S' from h) | skip
    rename_i i j
    first
      | (obtain ⟨rfl, rfl⟩ := ret_ok h
         refine ⟨rfl, fun r a b q => ?_⟩
         rw [PR.int_iff] at a b
         exact ⟨i, j, a, b, RQ.int r q⟩)
      | (obtain ⟨_, S1, h1, h2⟩ := bnd_ok h
         obtain ⟨e, rfl⟩ := guard_ok h1
         obtain ⟨rfl, rfl⟩ := ret_ok h2
         refine ⟨rfl, fun r a b q => ?_⟩
         rw [PR.int_iff] at a b
         have e' := of_decide_eq_true e
         first
           | exact ⟨i, j, a, b, e', RQ.int r q⟩
           | (refine ⟨i, j, a, b, ?_, RQ.int r q⟩
              obtain ⟨e1, e2, e3⟩ := e'
              have e4 := of_decide_eq_true e3
              refine ⟨e1, by omega, by omega⟩))
end
end Mp
end
section
set_option autoImplicit false
set_option linter.all false
set_option maxRecDepth 100000
set_option maxHeartbeats 4000000
/-! Mp4: a >= b of tuples, of lists, of data. -/
namespace Mp
open PySem PySem.SeqAt PySem.AutoSeq1 PySem.MeetsSeq PySem.MeetsSeq2 PySem.MeetsSeq3 PySem.SeqRoads2
/-- a >= b returns k and leaves the state -/
def RcGe (A : Around) (s : Shared) (y x : Value) (k : Bool) : Prop :=
  ∀ (pr : Program) (w : World) (E Q : Value → Shared → Prop), (E = E) → Q (.bool k) s → wpAny (model pr w) A (richCompare .GtE y x) Q E s
theorem tupGe (l b : Addr) (us ws : Array Value) (n n2 : Nat) (dd dd2 : Option Addr) (sl sl2 : Array (Option Value)) (e r : Nat → Bool) :
    Meets (Builtin.«tuple.__ge__» ⟨[.ref l, .ref b], []⟩)
      (fun A R s => s.heap.get? l = some { cls := .type "tuple", dict := dd, data := .seq us n, slots := sl } ∧
        s.heap.get? b = some { cls := .type "tuple", dict := dd2, data := .seq ws n2, slots := sl2 } ∧
        (∀ j (h1 : j < us.size) (h2 : j < ws.size), EqAt A.in1 s us[j] ws[j] (e j)) ∧
        (∀ j (h1 : j < us.size) (h2 : j < ws.size), e j = false → RcGe A.in1 s us[j] ws[j] (r j)) ∧
        R (.ok (.ret (.bool (firstLt e r (decide (us.size ≥ ws.size)) (List.range (min us.size ws.size)))))) s) :=
  .of_wp fun prog w A R s h => by
    obtain ⟨hp, g, d, tk, os⟩ := s; obtain ⟨hl, hb, he, hr, h⟩ := h
    have f2 := AutoSeq1.sub_tuple_tuple
    have hZ : (us.toList.zip ws.toList).length = min us.size ws.size := by simp
    wp_walk using wpAny_loadPart' hl, wpAny_loadPart' hb, wpAny_forIn_list _ (fun rest b s' => b.1 = none ∧ s' = ⟨hp, g, d, tk, os⟩ ∧ ∃ i, rest = (us.toList.zip ws.toList).drop i ∧
      R (.ok (.ret (.bool (firstLt e r (decide (us.size ≥ ws.size)) ((List.range (min us.size ws.size)).drop i))))) ⟨hp, g, d, tk, os⟩) _
    case turn =>
      rintro ⟨y, x⟩ rest b s' ⟨hb', rfl, i, hz, hR⟩
      have hlt : i < (us.toList.zip ws.toList).length := by
        rcases Nat.lt_or_ge i (us.toList.zip ws.toList).length with h' | h'
        · exact h'
        · rw [List.drop_of_length_le h'] at hz; cases hz
      have hm : i < min us.size ws.size := hZ ▸ hlt
      have h1 : i < us.size := Nat.lt_of_lt_of_le hm (Nat.min_le_left _ _)
      have h2 : i < ws.size := Nat.lt_of_lt_of_le hm (Nat.min_le_right _ _)
      rw [List.drop_eq_getElem_cons hlt] at hz
      injection hz with hyx hrest
      have hy : y = us[i] := by have q := congrArg Prod.fst hyx; simpa using q
      have hx : x = ws[i] := by have q := congrArg Prod.snd hyx; simpa using q
      subst hy hx
      have hd : (List.range (min us.size ws.size)).drop i = i :: (List.range (min us.size ws.size)).drop (i + 1) := by simp [List.drop_eq_getElem_cons, hm]
      rw [hd] at hR
      refine wpAny_bind (he i h1 h2 prog w _ _ ?_)
      cases hy : e i with
      | true =>
        rw [firstLt_yes hy] at hR
        wp_walk
        exact ⟨rfl, rfl, i + 1, hrest, hR⟩
      | false =>
        rw [firstLt_no hy] at hR
        show wpAny _ _ (rule _ >>= fun _ => richCompare .GtE us[i] ws[i] >>= fun v => PySem.ret v >>= fun x => pure (ForInStep.done (some x, ()))) _ _ _
        refine wpAny_bind (wpAny_rule (wpAny_bind (hr i h1 h2 hy prog w _ _ rfl ?_)))
        wp_walk
        exact ⟨_, rfl, hR⟩
    case fin =>
      rintro ⟨b1, b2⟩ s' ⟨hb', rfl, i, hz, hR⟩
      simp only at hb'
      subst hb'
      have hge : min us.size ws.size ≤ i := by
        rcases Nat.lt_or_ge i (us.toList.zip ws.toList).length with h' | h'
        · rw [List.drop_eq_getElem_cons h'] at hz; cases hz
        · exact hZ ▸ h'
      rw [List.drop_of_length_le (by simpa using hge)] at hR
      wp_walk
      exact ⟨_, rfl, by simpa [Builtin.Tuple.tupleCompareSizes, firstLt] using hR⟩
    case h =>
      exact ⟨rfl, rfl, 0, rfl, by simpa using h⟩
theorem lstGeLoop (l b : Addr) (us ws : Array Value) (n n2 : Nat) (dd dd2 : Option Addr) (sl sl2 : Array (Option Value)) (e r : Nat → Bool) (k : Nat) :
    ∀ i : Nat, min us.size ws.size - i = k → Meets (Builtin.«list.__eq__.loop» ⟨[.ref l, .ref b, rawInt i, rawInt 5], []⟩)
      (fun A R s => s.heap.get? l = some { cls := .type "list", dict := dd, data := .seq us n, slots := sl } ∧
        s.heap.get? b = some { cls := .type "list", dict := dd2, data := .seq ws n2, slots := sl2 } ∧
        (∀ j (h1 : j < us.size) (h2 : j < ws.size), EqAt A.in1 s us[j] ws[j] (e j)) ∧
        (∀ j (h1 : j < us.size) (h2 : j < ws.size), e j = false → RcGe A.in1 s us[j] ws[j] (r j)) ∧
        R (.ok (.ret (.bool (firstLt e r (decide (us.size ≥ ws.size)) ((List.range (min us.size ws.size)).drop i))))) s) := by
  induction k with
  | zero =>
    intro i hk prog w A R s h
    obtain ⟨hp, g, d, tk, os⟩ := s; obtain ⟨hl, hb, he, hr, h⟩ := h
    have hd : (List.range (min us.size ws.size)).drop i = [] := by simp; omega
    rw [hd] at h
    wp_walk using wpAny_loadPart' hl, wpAny_loadPart' hb
    by_cases h1 : us.size ≤ i
    · have hi1 : us[((i : Nat) : Int).toNat]? = none := by simp; omega
      rw [hi1]
      wp_walk using wpAny_loadPart' hl, wpAny_loadPart' hb
      exact h
    · have hlt : i < us.size := by omega
      have hi1 : us[((i : Nat) : Int).toNat]? = some us[i] := by simp [hlt]
      have hi2 : ws[((i : Nat) : Int).toNat]? = none := by simp; omega
      rw [hi1, hi2]
      wp_walk using wpAny_loadPart' hl, wpAny_loadPart' hb
      exact h
  | succ k ih =>
    intro i hk prog w A R s h
    obtain ⟨hp, g, d, tk, os⟩ := s; obtain ⟨hl, hb, he, hr, h⟩ := h
    wp_walk using wpAny_loadPart' hl, wpAny_loadPart' hb
    have hm : i < min us.size ws.size := by omega
    have hlt : i < us.size := Nat.lt_of_lt_of_le hm (Nat.min_le_left _ _)
    have hlt2 : i < ws.size := Nat.lt_of_lt_of_le hm (Nat.min_le_right _ _)
    have hi1 : us[((i : Nat) : Int).toNat]? = some us[i] := by simp [hlt]
    have hi2 : ws[((i : Nat) : Int).toNat]? = some ws[i] := by simp [hlt2]
    have hd : (List.range (min us.size ws.size)).drop i = i :: (List.range (min us.size ws.size)).drop (i + 1) := by simp [List.drop_eq_getElem_cons, hm]
    have hc : ((i : Int) + 1) = ((i + 1 : Nat) : Int) := by push_cast; rfl
    rw [hd] at h
    rw [hi1, hi2]
    refine wpAny_bind (he i hlt hlt2 prog w _ _ ?_)
    cases hb' : e i with
    | true =>
      rw [firstLt_yes hb'] at h
      wp_walk
      rw [hc]
      exact ⟨plainId_quiet plain_eq_loop _, codeAny_builtin entry_eq_loop (by
        rw [Around.under_plainId plain_eq_loop _]
        exact ih (i + 1) (by omega) prog w A R _ ⟨hl, hb, he, hr, h⟩)⟩
    | false =>
      rw [firstLt_no hb'] at h
      wp_walk using wpAny_loadPart' hl, wpAny_loadPart' hb
      rw [hi1, hi2]
      show wpAny _ _ (richCompare .GtE us[i] ws[i] >>= fun v => PySem.ret v) _ _ _
      refine wpAny_bind (hr i hlt hlt2 hb' prog w _ _ rfl ?_)
      wp_walk
      exact h
theorem lstGe (l b : Addr) (us ws : Array Value) (n n2 : Nat) (dd dd2 : Option Addr) (sl sl2 : Array (Option Value)) (e r : Nat → Bool) :
    Meets (Builtin.«list.__ge__» ⟨[.ref l, .ref b], []⟩)
      (fun A R s => s.heap.get? l = some { cls := .type "list", dict := dd, data := .seq us n, slots := sl } ∧
        s.heap.get? b = some { cls := .type "list", dict := dd2, data := .seq ws n2, slots := sl2 } ∧
        (∀ j (h1 : j < us.size) (h2 : j < ws.size), EqAt A.in1 s us[j] ws[j] (e j)) ∧
        (∀ j (h1 : j < us.size) (h2 : j < ws.size), e j = false → RcGe A.in1 s us[j] ws[j] (r j)) ∧
        R (.ok (.ret (.bool (firstLt e r (decide (us.size ≥ ws.size)) (List.range (min us.size ws.size)))))) s) := by
  intro prog w A R s h
  obtain ⟨hp, g, d, tk, os⟩ := s; obtain ⟨hl, hb, he, hr, h⟩ := h
  have f3 := AutoSeq1.sub_list_list
  wp_walk using wpAny_loadPart' hl, wpAny_loadPart' hb
  exact ⟨plainId_quiet plain_eq_loop _, codeAny_builtin entry_eq_loop (by
    rw [Around.under_plainId plain_eq_loop _]
    exact lstGeLoop l b us ws n n2 dd dd2 sl sl2 e r _ 0 rfl prog w A R _ ⟨hl, hb, he, hr, by simpa using h⟩)⟩
section
variable {A : Around} {s : Shared}
theorem RcGe.tuples {l b : Addr} {us ws : Array Value} {e r : Nat → Bool} (hl : s.heap.IsTuple l us) (hb : s.heap.IsTuple b ws) (hu : A.units < cLine)
    (he : ∀ j (h1 : j < us.size) (h2 : j < ws.size), EqAt A.in1 s us[j] ws[j] (e j)) (hr : ∀ j (h1 : j < us.size) (h2 : j < ws.size), e j = false → RcGe A.in1 s us[j] ws[j] (r j)) :
    RcGe A s (.ref l) (.ref b) (firstLt e r (decide (us.size ≥ ws.size)) (List.range (min us.size ws.size))) := fun pr w E Q _ h => by
  obtain ⟨⟨c1, d1, t1, q1⟩, ho, hc, n, hd⟩ := id hl
  obtain ⟨⟨c2, d2, t2, q2⟩, ho2, hc2, n2, hd2⟩ := id hb
  simp only at hc hd hc2 hd2
  subst hc hd hc2 hd2
  refine richCompare_meets_room (op := .GtE) ⟨_, ho, rfl⟩ ⟨_, ho2, rfl⟩ F.slot_tuple_ge F.entry_tuple_ge (F.args_tuple_ge_2 _ _) (tupGe l b us ws n n2 d1 d2 q1 q2 e r) ⟨ho, ho2, he, hr, ?_⟩ hu
  exact ⟨(fun x => nomatch x), h⟩
theorem RcGe.lists {l b : Addr} {us ws : Array Value} {e r : Nat → Bool} (hl : s.heap.IsList l us) (hb : s.heap.IsList b ws) (hu : A.units < cLine)
    (he : ∀ j (h1 : j < us.size) (h2 : j < ws.size), EqAt A.in1 s us[j] ws[j] (e j)) (hr : ∀ j (h1 : j < us.size) (h2 : j < ws.size), e j = false → RcGe A.in1 s us[j] ws[j] (r j)) :
    RcGe A s (.ref l) (.ref b) (firstLt e r (decide (us.size ≥ ws.size)) (List.range (min us.size ws.size))) := fun pr w E Q _ h => by
  obtain ⟨⟨c1, d1, t1, q1⟩, ho, hc, n, hd⟩ := id hl
  obtain ⟨⟨c2, d2, t2, q2⟩, ho2, hc2, n2, hd2⟩ := id hb
  simp only at hc hd hc2 hd2
  subst hc hd hc2 hd2
  refine richCompare_meets_room (op := .GtE) ⟨_, ho, rfl⟩ ⟨_, ho2, rfl⟩ F.slot_list_ge F.entry_list_ge (F.args_list_ge_2 _ _) (lstGe l b us ws n n2 d1 d2 q1 q2 e r) ⟨ho, ho2, he, hr, ?_⟩ hu
  exact ⟨(fun x => nomatch x), h⟩
end
theorem in1u (A : Around) : A.in1.units = A.units + 1 := rfl
theorem firstLt_not (e r : Nat → Bool) (fin : Bool) : ∀ l : List Nat, firstLt e (fun j => !r j) (!fin) l = !firstLt e r fin l
  | [] => rfl
  | j :: t => by
    cases h : e j with
    | true => rw [firstLt_yes h, firstLt_yes h]; exact firstLt_not e r fin t
    | false => rw [firstLt_no h, firstLt_no h]
open PySem.W
mutual
/-- alike data: >= is not < -/
theorem rcGe_alike : ∀ (da db : PyData) (A : Around) (s : Shared) (a b : Value) (as bs : List Addr), Reads s.heap a da as → Reads s.heap b db bs → alike da db = true → da ≠ .none →
    A.units + da.depth < cLine → RcGe A s a b (!dataLt da db)
  | .none, _, _, _, _, _, _, _, _, _, _, hn, _ => absurd rfl hn
  | .bool x, db, A, s, a, b, as, bs, ra, rb, h, e, _ => by
    cases db with
    | bool y =>
      cases ra
      cases rb
      intro pr w E Q _ hq
      refine PyProof.Rows.ge_bool ?_
      rw [dataLt_bool] at hq
      have q : decide (PyProof.Rows.b2i x ≥ PyProof.Rows.b2i y) = !decide (PyProof.Rows.b2i x < PyProof.Rows.b2i y) := by cases x <;> cases y <;> rfl
      rw [q]
      exact hq
    | _ => exact absurd h (by simp [alike])
  | .int x, db, A, s, a, b, as, bs, ra, rb, h, e, _ => by
    cases db with
    | int y =>
      cases ra
      cases rb
      intro pr w E Q _ hq
      refine P.ge_int ?_
      rw [dataLt_int] at hq
      have q : decide (x ≥ y) = !decide (x < y) := by
        by_cases z : x < y
        · rw [decide_eq_true z, decide_eq_false (by omega)]; rfl
        · rw [decide_eq_false z, decide_eq_true (by omega)]; rfl
      rw [q]
      exact hq
    | _ => exact absurd h (by simp [alike])
  | .str x, db, A, s, a, b, as, bs, ra, rb, h, e, _ => by
    cases db with
    | str y =>
      cases ra
      cases rb
      intro pr w E Q _ hq
      rw [dataLt_str] at hq
      exact P.ge_str hq
    | _ => exact absurd h (by simp [alike])
  | .list xs, db, A, s, a, b, as, bs, ra, rb, h, e, hu => by
    cases db with
    | list ys =>
      have hal : alikeAll xs ys = true := by simpa [alike] using h
      cases ra with
      | @list l o vs n _ as₁ h1 h2 h3 h4 =>
        cases rb with
        | @list l' o' vs' n' _ bs₁ k1 k2 k3 k4 =>
          have n1 : vs.size = xs.length := by simpa using ReadsAll.length _ _ _ h4
          have n2 : vs'.size = ys.length := by simpa using ReadsAll.length _ _ _ k4
          rw [PyData.depth] at hu
          have h0 := RcGe.lists (s := s) (e := pairEq xs ys) (r := fun j => !dataLt (xs.getD j .none) (ys.getD j .none)) ⟨_, h1, h2, _, h3⟩ ⟨_, k1, k2, _, k3⟩ (A := A) (by omega)
            (fun j j1 j2 => by
              have q := eqAt_alikeAll xs ys A.in1 s vs.toList vs'.toList _ _ h4 k4 hal (by rw [in1u]; omega) j (by simpa using j1) (by simpa using j2)
              simpa using q)
            (fun j j1 j2 hj => by
              have q := rcGe_alikeAll xs ys A.in1 s vs.toList vs'.toList _ _ h4 k4 hal (by rw [in1u]; omega) j (by simpa using j1) (by simpa using j2) hj
              simpa using q)
          have h5 : decide (vs.size ≥ vs'.size) = !decide (vs.size < vs'.size) := by
            by_cases z : vs.size < vs'.size
            · rw [decide_eq_true z, decide_eq_false (by omega)]; rfl
            · rw [decide_eq_false z, decide_eq_true (by omega)]; rfl
          rw [h5, firstLt_not, n1, n2, firstLt_toks xs ys hal, ← dataLt_list] at h0
          exact h0
    | _ => exact absurd h (by simp [alike])
  | .tuple xs, db, A, s, a, b, as, bs, ra, rb, h, e, hu => by
    cases db with
    | tuple ys =>
      have hal : alikeAll xs ys = true := by simpa [alike] using h
      cases ra with
      | @tuple l o vs n _ as₁ h1 h2 h3 h4 =>
        cases rb with
        | @tuple l' o' vs' n' _ bs₁ k1 k2 k3 k4 =>
          have n1 : vs.size = xs.length := by simpa using ReadsAll.length _ _ _ h4
          have n2 : vs'.size = ys.length := by simpa using ReadsAll.length _ _ _ k4
          rw [PyData.depth] at hu
          have h0 := RcGe.tuples (s := s) (e := pairEq xs ys) (r := fun j => !dataLt (xs.getD j .none) (ys.getD j .none)) ⟨_, h1, h2, _, h3⟩ ⟨_, k1, k2, _, k3⟩ (A := A) (by omega)
            (fun j j1 j2 => by
              have q := eqAt_alikeAll xs ys A.in1 s vs.toList vs'.toList _ _ h4 k4 hal (by rw [in1u]; omega) j (by simpa using j1) (by simpa using j2)
              simpa using q)
            (fun j j1 j2 hj => by
              have q := rcGe_alikeAll xs ys A.in1 s vs.toList vs'.toList _ _ h4 k4 hal (by rw [in1u]; omega) j (by simpa using j1) (by simpa using j2) hj
              simpa using q)
          have h5 : decide (vs.size ≥ vs'.size) = !decide (vs.size < vs'.size) := by
            by_cases z : vs.size < vs'.size
            · rw [decide_eq_true z, decide_eq_false (by omega)]; rfl
            · rw [decide_eq_false z, decide_eq_true (by omega)]; rfl
          rw [h5, firstLt_not, n1, n2, firstLt_toks xs ys hal, ← dataLt_tuple] at h0
          exact h0
    | _ => exact absurd h (by simp [alike])
  | .dict _, db, _, _, _, _, _, _, _, _, h, _, _ => absurd h (by cases db <;> simp [alike])
theorem rcGe_alikeAll : ∀ (xs ys : List PyData) (A : Around) (s : Shared) (vs ws : List Value) (as bs : List Addr), ReadsAll s.heap vs xs as → ReadsAll s.heap ws ys bs → alikeAll xs ys = true →
    A.units + PyData.depthAll xs < cLine → ∀ j (h1 : j < vs.length) (h2 : j < ws.length), pairEq xs ys j = false → RcGe A s vs[j] ws[j] (!dataLt (xs.getD j .none) (ys.getD j .none))
  | [], _, _, _, _, _, _, _, ra, _, _, _, j, h1, _, _ => by cases ra; exact absurd h1 (Nat.not_lt_zero _)
  | _ :: _, [], _, _, _, _, _, _, _, rb, _, _, j, _, h2, _ => by cases rb; exact absurd h2 (Nat.not_lt_zero _)
  | x :: xs, y :: ys, A, s, _, _, _, _, ra, rb, h, hu, j, h1, h2, hj => by
    rw [PyData.depthAll] at hu
    cases ra with
    | cons r rs =>
      cases rb with
      | cons r' rs' =>
        cases j with
        | zero => exact rcGe_alike x y A s _ _ _ _ r r' (alike_all_cons h).1 (ne_none_of (alike_all_cons h).1 hj) (by omega)
        | succ j => exact rcGe_alikeAll xs ys A s _ _ _ _ rs rs' (alike_all_cons h).2 (by omega) j (Nat.lt_of_succ_lt_succ h1) (Nat.lt_of_succ_lt_succ h2) hj
end
end Mp
end
section
set_option autoImplicit false
set_option linter.all false
set_option maxRecDepth 100000
set_option maxHeartbeats 4000000
/-! Mp5: comparisons, subscripts, slices. -/
namespace Mp
open PySem PySem.Spec PyProof.Rows L2
section
variable {X : Cx}
def rLtDt (K : PySem.W.Frag) : R2 := fun x y H Q => ∃ d e, Dp K H x d ∧ Dp K H y e ∧ W.alike d e = true ∧ d ≠ .none ∧ d.depth ≤ 60 ∧ Q (.bl (W.dataLt d e)) H
theorem op_ltDt (hu : X.A.units + 65 < cLine) : OpR X (compareOp .Lt) (rLtDt X.K) := by
  intro pins s σ H x y v u Q I rx ry ⟨d, e, h1, h2, h3, h4, h5, q⟩
  obtain ⟨as, r1⟩ := Dp.reads I d x v h1 rx
  obtain ⟨bs, r2⟩ := Dp.reads I e y u h2 ry
  exact W.rcLt_alike d e X.A s v u as bs r1 r2 h3 h4 (by omega) X.prog X.w _ _ ⟨.bl _, H, I, rfl, q⟩
def rGeDt (K : PySem.W.Frag) : R2 := fun x y H Q => ∃ d e, Dp K H x d ∧ Dp K H y e ∧ W.alike d e = true ∧ d ≠ .none ∧ d.depth ≤ 60 ∧ Q (.bl (!W.dataLt d e)) H
theorem op_geDt (hu : X.A.units + 65 < cLine) : OpR X (compareOp .GtE) (rGeDt X.K) := by
  intro pins s σ H x y v u Q I rx ry ⟨d, e, h1, h2, h3, h4, h5, q⟩
  obtain ⟨as, r1⟩ := Dp.reads I d x v h1 rx
  obtain ⟨bs, r2⟩ := Dp.reads I e y u h2 ry
  exact rcGe_alike d e X.A s v u as bs r1 r2 h3 h4 (by omega) X.prog X.w _ _ rfl ⟨.bl _, H, I, rfl, q⟩
def rStr (p : Str → Str → Bool) : R2 := fun x y H Q => ∃ i j, x = .str i ∧ y = .str j ∧ Q (.bl (p i j)) H
def rDIn (neg : Bool) : R2 := fun x y H Q => ∃ a o, y = .ref a ∧ DGet H a x o ∧ Q (.bl (if neg then !o.isSome else o.isSome)) H
theorem op_dIn (hu : X.A.units + 65 < cLine) : OpR X (compareOp .In) (rDIn false) := by
  intro pins s σ H x y v u Q I rx ry ⟨a, o, e, g, q⟩
  subst e
  cases ry
  exact d_in (by omega) I g rx fun s' I' => ⟨.bl _, H, I', rfl, q⟩
theorem op_dNotIn (hu : X.A.units + 65 < cLine) : OpR X (compareOp .NotIn) (rDIn true) := by
  intro pins s σ H x y v u Q I rx ry ⟨a, o, e, g, q⟩
  subst e
  cases ry
  exact d_notIn (by omega) I g rx fun s' I' => ⟨.bl _, H, I', rfl, q⟩
end
section
variable {K : PySem.W.Frag} {m : List Addr} {Z Z' H H' : Hp} {S S' : Store} {x y z : PyData} {u w : V} {Q : VK}
theorem shaped_can (h : SeqAt.shaped x = true) : x.canLay0 = true := by
  unfold SeqAt.shaped at h
  rw [Bool.and_eq_true] at h
  exact h.1
theorem apart_ok (h : apartL x y = true) : ∃ xs ys, x = .list xs ∧ y = .list ys ∧ xs.length ≠ ys.length := by
  unfold apartL at h
  split at h
  · exact ⟨_, _, rfl, rfl, of_decide_eq_true h⟩
  · cases h
theorem eq_ok {b : Bool} (h : eqD x y S = .ok b S') : S' = S ∧ ((b = PyData.eqv x y ∧ SeqAt.shaped x = true ∧ SeqAt.shaped y = true) ∨ (b = false ∧ ∃ xs ys, x = .list xs ∧ y = .list ys ∧ xs.length ≠ ys.length)) := by
  unfold eqD at h
  split at h
  · rename_i e
    obtain ⟨rfl, rfl⟩ := ret_ok h
    exact ⟨rfl, .inr ⟨rfl, apart_ok e⟩⟩
  obtain ⟨_, S1, h1, h2⟩ := bnd_ok h
  obtain ⟨e, rfl⟩ := guard_ok h1
  obtain ⟨rfl, rfl⟩ := ret_ok h2
  rw [Bool.and_eq_true] at e
  exact ⟨rfl, .inl ⟨rfl, e.1, e.2⟩⟩
/-- a key as it stands -/
theorem keyK_of : ∀ {x : PyData} {u : V}, keyAtom x = true → DR Z x u → ∃ k, keyK x = some k ∧ u = kV k
  | .int i, u, _, h => ⟨.inl i, rfl, by simp only [DR] at h; exact h⟩
  | .str s, u, _, h => ⟨.inr s, rfl, by simp only [DR] at h; exact h⟩
  | .none, _, h, _ => by cases h
  | .bool _, _, h, _ => by cases h
  | .list _, _, h, _ => by cases h
  | .tuple _, _, h, _ => by cases h
  | .dict _, _, h, _ => by cases h
theorem keysK_of : ∀ {xs : List PyData} {us : List V}, xs.all keyAtom = true → DRs Z xs us → ∃ ks, keysK xs = some ks ∧ us = ks.map kV
  | [], us, _, h => ⟨[], rfl, by rw [DRs.nil_iff.mp h]; rfl⟩
  | x :: xs, us, e, h => by
    obtain ⟨u, r, rfl, h1, h2⟩ := DRs.cons_iff.mp h
    rw [List.all_cons, Bool.and_eq_true] at e
    obtain ⟨k, a, rfl⟩ := keyK_of e.1 h1
    obtain ⟨ks, b, rfl⟩ := keysK_of e.2 h2
    exact ⟨k :: ks, by rw [keysK, a, b], rfl⟩
theorem keyK_inj : ∀ {x y : PyData} {k : Key}, keyK x = some k → keyK y = some k → PyData.eqv x y = true ∧ x = y
  | .int i, y, k, h1, h2 => by
    cases y <;> simp [keyK] at h1 h2 <;> subst h1 <;> simp at h2
    subst h2
    simp [PyData.eqv]
  | .str i, y, k, h1, h2 => by
    cases y <;> simp [keyK] at h1 h2 <;> subst h1 <;> simp at h2
    subst h2
    simp [PyData.eqv]
  | .none, _, _, h, _ => by cases h
  | .bool _, _, _, h, _ => by cases h
  | .list _, _, _, h, _ => by cases h
  | .tuple _, _, _, h, _ => by cases h
  | .dict _, _, _, h, _ => by cases h
theorem keyK_eqv {x y : PyData} {k k' : Key} (h1 : keyK x = some k) (h2 : keyK y = some k') : PyData.eqv x y = decide (k = k') := by
  cases x <;> simp [keyK] at h1 <;> cases y <;> simp [keyK] at h2 <;> subst h1 <;> subst h2 <;> simp [PyData.eqv] <;> rfl
theorem keysK_eqv : ∀ {xs ys : List PyData} {k k' : List Key}, keysK xs = some k → keysK ys = some k' → PyData.eqvAll xs ys = decide (k = k')
  | [], [], k, k', h1, h2 => by
    cases h1
    cases h2
    rfl
  | [], y :: ys, k, k', h1, h2 => by
    cases h1
    rw [keysK] at h2
    cases e1 : keyK y <;> rw [e1] at h2 <;> cases e2 : keysK ys <;> rw [e2] at h2 <;> cases h2
    rfl
  | x :: xs, [], k, k', h1, h2 => by
    cases h2
    rw [keysK] at h1
    cases e1 : keyK x <;> rw [e1] at h1 <;> cases e2 : keysK xs <;> rw [e2] at h1 <;> cases h1
    rfl
  | x :: xs, y :: ys, k, k', h1, h2 => by
    rw [keysK] at h1 h2
    cases e1 : keyK x <;> rw [e1] at h1 <;> cases e2 : keysK xs <;> rw [e2] at h1 <;> cases h1
    cases e3 : keyK y <;> rw [e3] at h2 <;> cases e4 : keysK ys <;> rw [e4] at h2 <;> cases h2
    rw [PyData.eqvAll, keyK_eqv e1 e3, keysK_eqv e2 e4]
    rw [← Bool.decide_and]
    simp
theorem keyT_eqv {x y : PyData} {k k' : List Key} (h1 : keyT x = some k) (h2 : keyT y = some k') : PyData.eqv x y = decide (k = k') := by
  cases x <;> simp [keyT] at h1
  cases y <;> simp [keyT] at h2
  rw [PyData.eqv]
  exact keysK_eqv h1 h2
/-- looked up in the table that stands in the heap -/
theorem look_k {k : Key} (hk : keyK x = some k) : ∀ {kvs : List (PyData × PyData)} {ws : List (Key × V)}, DRk Z kvs ws → match lookD kvs x with
    | some z => ∃ u, valV ws k = some u ∧ DR Z z u
    | none => valV ws k = none
  | [], ws, h => by
    simp only [DRk] at h
    subst h
    exact valV_nil
  | (j, z) :: kvs, ws, h => by
    simp only [DRk] at h
    obtain ⟨j', u, t, rfl, hj, h1, h2⟩ := h
    have ih := look_k hk h2
    by_cases e : j' = k
    · have q : PyData.eqv j x = true := by rw [keyK_eqv hj hk]; exact decide_eq_true e
      have q2 : lookD ((j, z) :: kvs) x = some z := by simp [lookD, q]
      rw [q2]
      exact ⟨u, valV_pos (p := (j', u)) e, h1⟩
    · have q : PyData.eqv j x = false := by rw [keyK_eqv hj hk]; exact decide_eq_false e
      have q2 : lookD ((j, z) :: kvs) x = lookD kvs x := by simp [lookD, q]
      rw [q2, valV_neg (p := (j', u)) e]
      exact ih
theorem look_t {k : List Key} (hk : keyT x = some k) : ∀ {kvs : List (PyData × PyData)} {ws : List (List Key × V)}, DRt Z kvs ws → match lookD kvs x with
    | some z => ∃ u, valV ws k = some u ∧ DR Z z u
    | none => valV ws k = none
  | [], ws, h => by
    simp only [DRt] at h
    subst h
    exact valV_nil
  | (j, z) :: kvs, ws, h => by
    simp only [DRt] at h
    obtain ⟨j', u, t, rfl, hj, h1, h2⟩ := h
    have ih := look_t hk h2
    by_cases e : j' = k
    · have q : PyData.eqv j x = true := by rw [keyT_eqv hj hk]; exact decide_eq_true e
      have q2 : lookD ((j, z) :: kvs) x = some z := by simp [lookD, q]
      rw [q2]
      exact ⟨u, valV_pos (p := (j', u)) e, h1⟩
    · have q : PyData.eqv j x = false := by rw [keyT_eqv hj hk]; exact decide_eq_false e
      have q2 : lookD ((j, z) :: kvs) x = lookD kvs x := by simp [lookD, q]
      rw [q2, valV_neg (p := (j', u)) e]
      exact ih
end
end Mp
end
section
set_option autoImplicit false
set_option linter.all false
set_option maxRecDepth 100000
set_option maxHeartbeats 4000000
/-! Mp6: an empty dict is of each kind; look-ups; what comparisons come to. -/
namespace Mp
open PySem PySem.Spec PyProof.Rows L2
section
variable {X : Cx} {pins : List (Addr × Obj)} {σ : L2.St} {H : Hp} {s : Shared} {a : Addr}
theorem Inv.asT (I : Inv X pins σ H s) (h : H a = some (.dK [])) : Inv X pins σ (upd H a (.dT [])) s := by
  obtain ⟨h1, h2, vs, kv, o, es, ep, g1, g2, g3, g4, g5, g6⟩ := (show ObjOk X.prog X.w H s.heap a (.dK []) from I.hok a _ h)
  cases kv
  have e0 : es.toList = [] := by
    cases q : es.toList with
    | nil => rfl
    | cons x r => rw [q] at g5; cases g5
  have w := I.write (x := a) (e := a) (o := .dT []) (h' := s.heap) (t' := s.toks) (by rw [h]; exact True.intro) (.inl rfl) (fun _ _ _ z => z) ⟨_, g1⟩
    ⟨Nat.zero_le _, h2, [], .nil, o, es, ep, g1, g2, g3, e0, List.nodup_nil⟩
  exact w
theorem Inv.asK (I : Inv X pins σ H s) (h : H a = some (.dT [])) : Inv X pins σ (upd H a (.dK [])) s := by
  obtain ⟨h1, h2, xs, kt, o, es, ep, g1, g2, g3, g4, g5⟩ := (show ObjOk X.prog X.w H s.heap a (.dT []) from I.hok a _ h)
  cases kt
  have e0 : es = #[] := by
    have q : es.toList = [] := g4
    exact Array.toList_eq_nil_iff.mp q
  have w := I.write (x := a) (e := a) (o := .dK []) (h' := s.heap) (t' := s.toks) (by rw [h]; exact True.intro) (.inl rfl) (fun _ _ _ z => z) ⟨_, g1⟩
    ⟨Nat.zero_le _, h2, [], .nil, o, es, ep, g1, g2, g3, by subst e0; exact fun _ z => by simp at z, by subst e0; exact .nil, List.nodup_nil⟩
  exact w
theorem upd_back {o o' : HO} (h : H a = some o) : upd (upd H a o') a o = H := by
  funext b
  by_cases e : b = a
  · subst e; rw [upd_same, h]
  · rw [upd_ne e, upd_ne e]
/-- an empty dict of the other kind -/
def WrongE (H : Hp) (a : Addr) (u : V) : Prop := (H a = some (.dK []) ∧ ∃ (b : Addr) (k : List Key), u = .ref b ∧ H b = some (.tup (k.map kV))) ∨ (H a = some (.dT []) ∧ ∃ k : Key, u = kV k)
/-- what is done with a dict, done with an empty one of the other kind -/
theorem wrong_do {u : V} {A : Around} {E : Value → Shared → Prop} {f : Sem Value} {Q : VK} (I : Inv X pins σ H s) (w : WrongE H a u) (v : V) (q : Q v H)
    (run : ∀ (H1 : Hp) (Q1 : Value → Shared → Prop), Inv X pins σ H1 s → DGet H1 a u none → (∀ u' s', Inv X pins σ H1 s' → RelV v u' → Q1 u' s') → wpAny (model X.prog X.w) A f Q1 E s) :
    wpAny (model X.prog X.w) A f (EP X pins σ Q) E s := by
  rcases w with ⟨h, b, k, rfl, hb⟩ | ⟨h, k, rfl⟩
  · have hne : b ≠ a := ne_of hb h (by intro z; cases z)
    refine run (upd H a (.dT [])) _ (Inv.asT I h) (.inr ⟨[], k, b, .inl upd_same, rfl, by rw [upd_ne hne]; exact hb, rfl⟩) fun u' s' I' r => ?_
    have I2 := Inv.asK I' upd_same
    rw [upd_back h] at I2
    exact ⟨v, H, I2, r, q⟩
  · refine run (upd H a (.dK [])) _ (Inv.asK I h) (.inl ⟨[], k, .inl upd_same, rfl, rfl⟩) fun u' s' I' r => ?_
    have I2 := Inv.asT I' upd_same
    rw [upd_back h] at I2
    exact ⟨v, H, I2, r, q⟩
end
section
variable {K : PySem.W.Frag} {m : List Addr} {Z Z' H H' : Hp} {S S' : Store} {x y z : PyData} {u w : V} {Q : VK}
theorem drk_kind : ∀ {kvs : List (PyData × PyData)} {ws : List (Key × V)}, DRk Z kvs ws → ∀ p ∈ kvs, isTup p.1 = false
  | [], _, _, p, h => by cases h
  | (k, x) :: r, ws, h, p, hp => by
    simp only [DRk] at h
    obtain ⟨k', u, t, rfl, hk, _, h2⟩ := h
    rcases List.mem_cons.mp hp with rfl | hp
    · cases k <;> first | rfl | cases hk
    · exact drk_kind h2 p hp
theorem drt_kind : ∀ {kvs : List (PyData × PyData)} {ws : List (List Key × V)}, DRt Z kvs ws → ∀ p ∈ kvs, isTup p.1 = true
  | [], _, _, p, h => by cases h
  | (k, x) :: r, ws, h, p, hp => by
    simp only [DRt] at h
    obtain ⟨k', u, t, rfl, hk, _, h2⟩ := h
    rcases List.mem_cons.mp hp with rfl | hp
    · cases k <;> first | rfl | cases hk
    · exact drt_kind h2 p hp
theorem drk_len : ∀ {kvs : List (PyData × PyData)} {ws : List (Key × V)}, DRk Z kvs ws → ws.length = kvs.length
  | [], ws, h => by simp only [DRk] at h; rw [h]; rfl
  | (k, x) :: r, ws, h => by
    simp only [DRk] at h
    obtain ⟨k', u, t, rfl, hk, _, h2⟩ := h
    rw [List.length_cons, List.length_cons, drk_len h2]
theorem drt_len : ∀ {kvs : List (PyData × PyData)} {ws : List (List Key × V)}, DRt Z kvs ws → ws.length = kvs.length
  | [], ws, h => by simp only [DRt] at h; rw [h]; rfl
  | (k, x) :: r, ws, h => by
    simp only [DRt] at h
    obtain ⟨k', u, t, rfl, hk, _, h2⟩ := h
    rw [List.length_cons, List.length_cons, drt_len h2]
/-- a key as it stands: an int or a text, or a tuple of these -/
theorem key_cases (hk : isKey x = true) (hx : DR Z x u) : (isTup x = false ∧ ∃ k, keyK x = some k ∧ u = kV k) ∨ (isTup x = true ∧ ∃ b k, keyT x = some k ∧ u = .ref b ∧ Z b = some (.tup (k.map kV))) := by
  cases x with
  | int i => exact .inl ⟨rfl, keyK_of rfl hx⟩
  | str i => exact .inl ⟨rfl, keyK_of rfl hx⟩
  | tuple xs =>
    simp only [DR] at hx
    obtain ⟨b, us, rfl, hz, hs⟩ := hx
    obtain ⟨k, e, rfl⟩ := keysK_of hk hs
    exact .inr ⟨rfl, b, k, e, rfl, hz⟩
  | _ => cases hk
/-- a look-up -/
theorem dget_of {kvs : List (PyData × PyData)} {v : V} (r : PR Z H (.dict kvs) v) (hk : keyOk kvs x = true) (hx : DR Z x u) (s : Sub Z H) : ∃ a, v = .ref a ∧
    ((∃ o, DGet H a u o ∧ match lookD kvs x with | some z => ∃ w, o = some w ∧ DR Z z w | none => o = none) ∨ (lookD kvs x = none ∧ WrongE H a u)) := by
  unfold keyOk at hk
  rw [Bool.and_eq_true] at hk
  obtain ⟨k1, k2⟩ := hk
  obtain ⟨a, e, ⟨ws, h1, h2⟩ | ⟨ws, h1, h2⟩⟩ := r
  · refine ⟨a, e, ?_⟩
    rcases key_cases k1 hx with ⟨ht, k, hk, rfl⟩ | ⟨ht, b, k, hk, rfl, hz⟩
    · refine .inl ⟨valV ws k, .inl ⟨ws, k, h1.rd, rfl, rfl⟩, ?_⟩
      have q := look_k hk h2
      cases e : lookD kvs x with
      | some z => rw [e] at q; exact q
      | none => rw [e] at q; exact q
    · have e0 : kvs = [] := by
        cases kvs with
        | nil => rfl
        | cons p r =>
          rw [List.all_cons, Bool.and_eq_true] at k2
          have q := drk_kind h2 p List.mem_cons_self
          rw [q, ht] at k2
          cases k2.1
      subst e0
      simp only [DRk] at h2
      subst h2
      refine .inr ⟨rfl, .inl ⟨?_, b, k, rfl, s.tup hz⟩⟩
      rcases h1 with h | ⟨h, _⟩
      · exact h
      · cases h
  · refine ⟨a, e, ?_⟩
    rcases key_cases k1 hx with ⟨ht, k, hk, rfl⟩ | ⟨ht, b, k, hk, rfl, hz⟩
    · have e0 : kvs = [] := by
        cases kvs with
        | nil => rfl
        | cons p r =>
          rw [List.all_cons, Bool.and_eq_true] at k2
          have q := drt_kind h2 p List.mem_cons_self
          rw [q, ht] at k2
          cases k2.1
      subst e0
      simp only [DRt] at h2
      subst h2
      refine .inr ⟨rfl, .inr ⟨?_, k, rfl⟩⟩
      rcases h1 with h | ⟨h, _⟩
      · exact h
      · cases h
    · refine .inl ⟨valV ws k, .inr ⟨ws, k, b, h1.rd, rfl, s.tup hz, rfl⟩, ?_⟩
      have q := look_t hk h2
      cases e : lookD kvs x with
      | some z => rw [e] at q; exact q
      | none => rw [e] at q; exact q
end
section
variable {X : Cx}
def rDInW (neg : Bool) : R2 := fun x y H Q => ∃ a, y = .ref a ∧ WrongE H a x ∧ Q (.bl neg) H
theorem op_dInW (hu : X.A.units + 65 < cLine) : OpR X (compareOp .In) (rDInW false) := by
  intro pins s σ H x y v u Q I rx ry ⟨a, e, wr, q⟩
  subst e
  cases ry
  exact wrong_do I wr (.bl false) q fun H1 Q1 I1 g cont => d_in (by omega) I1 g rx fun s' I' => cont _ s' I' rfl
theorem op_dNotInW (hu : X.A.units + 65 < cLine) : OpR X (compareOp .NotIn) (rDInW true) := by
  intro pins s σ H x y v u Q I rx ry ⟨a, e, wr, q⟩
  subst e
  cases ry
  exact wrong_do I wr (.bl true) q fun H1 Q1 I1 g cont => d_notIn (by omega) I1 g rx fun s' I' => cont _ s' I' rfl
/-- lists of unlike lengths -/
def rLenN (K : PySem.W.Frag) (k : Bool) : R2 := fun x y H Q => ∃ a b us ws, x = .ref a ∧ y = .ref b ∧ SqL K H a us ∧ SqL K H b ws ∧ us.length ≠ ws.length ∧ Q (.bl k) H
theorem vals_size {us : List V} {its : List Value} (r : Vals us its) : its.toArray.size = us.length := by
  rw [List.size_toArray]
  induction r with
  | nil => rfl
  | cons _ _ ih => rw [List.length_cons, List.length_cons, ih]
theorem op_eqLen (hu : X.A.units + 65 < cLine) : OpR X (compareOp .Eq) (rLenN X.K false) := by
  intro pins s σ H x y v u Q I rx ry ⟨a, b, us, ws, e1, e2, h1, h2, ne, q⟩
  subst e1; subst e2
  cases rx; cases ry
  obtain ⟨is, r1, p1, _⟩ := I.list h1
  obtain ⟨js, r2, p2, _⟩ := I.list h2
  refine SeqAt.RcAt.lists_lengths p1.isList p2.isList (by rw [vals_size r1, vals_size r2]; simpa using ne) (by omega) X.prog X.w _ _ ⟨.bl false, H, I, rfl, q⟩
theorem op_neLen (hu : X.A.units + 65 < cLine) : OpR X (compareOp .NotEq) (rLenN X.K true) := by
  intro pins s σ H x y v u Q I rx ry ⟨a, b, us, ws, e1, e2, h1, h2, ne, q⟩
  subst e1; subst e2
  cases rx; cases ry
  obtain ⟨is, r1, p1, _⟩ := I.list h1
  obtain ⟨js, r2, p2, _⟩ := I.list h2
  refine SeqAt.RcNeAt.lists_lengths p1.isList p2.isList (by rw [vals_size r1, vals_size r2]; simpa using ne) (by omega) X.prog X.w _ _ ⟨.bl true, H, I, rfl, q⟩
def cmpO : CmpK → CmpOp
  | .eq => .Eq | .ne => .NotEq | .lt => .Lt | .le => .LtE | .gt => .Gt | .ge => .GtE | .is => .Is | .isnot => .IsNot | .in => .In | .notin => .NotIn
def rCmp (K : PySem.W.Frag) : CmpK → R2
  | .eq => rOr (rEqD K) (rLenN K false)
  | .ne => rOr (rNeD K) (rLenN K true)
  | .lt => rOr (rI0 fun i j => .bl (decide (i < j))) (rOr (rStr fun i j => decide (i.cps.toList < j.cps.toList)) (rLtDt K))
  | .ge => rOr (rI0 fun i j => .bl (decide (j ≤ i))) (rOr (rStr fun i j => !decide (i.cps.toList < j.cps.toList)) (rGeDt K))
  | .gt => rOr (rI0 fun i j => .bl (decide (j < i))) (rStr fun i j => decide (j.cps.toList < i.cps.toList))
  | .le => rOr (rI0 fun i j => .bl (decide (i ≤ j))) (rStr fun i j => !decide (j.cps.toList < i.cps.toList))
  | .is => rOr (fun x y H Q => y = .non ∧ Q (.bl (decide (x = .non))) H) rIsB
  | .isnot => rOr (fun x y H Q => y = .non ∧ Q (.bl (!decide (x = .non))) H) rNotB
  | .in => rOr (rStr fun i j => !(Builtin.Str.occurrences j i 0 j.length 1).isEmpty) (rOr (rInD K) (rOr (rIn K false) (rOr (rDIn false) (rDInW false))))
  | .notin => rOr (rStr fun i j => !(!(Builtin.Str.occurrences j i 0 j.length 1).isEmpty)) (rOr (rNotInD K) (rOr (rIn K true) (rOr (rDIn true) (rDInW true))))
theorem op_cmp (hu : X.A.units + 65 < cLine) : ∀ o : CmpK, OpR X (compareOp (cmpO o)) (rCmp X.K o)
  | .eq => OpR.or (op_eqD (by omega)) (op_eqLen hu)
  | .ne => OpR.or (op_neD (by omega)) (op_neLen hu)
  | .lt => OpR.or op_lt (OpR.or op_lt_str (op_ltDt hu))
  | .ge => OpR.or op_ge (OpR.or op_ge_str (op_geDt hu))
  | .gt => OpR.or op_gt op_gt_str
  | .le => OpR.or op_le op_le_str
  | .is => OpR.or op_isN op_isBl
  | .isnot => OpR.or op_notN op_notBl
  | .in => OpR.or op_in_str (OpR.or (op_inD (by omega)) (OpR.or op_in_seq (OpR.or (op_dIn hu) (op_dInW hu))))
  | .notin => OpR.or op_notIn_str (OpR.or (op_notInD (by omega)) (OpR.or op_notIn_seq (OpR.or (op_dNotIn hu) (op_dNotInW hu))))
end
section
variable {K : PySem.W.Frag} {m : List Addr} {Z Z' H H' : Hp} {S S' : Store} {x y z : PyData} {u w : V} {Q : VK} {b : Bool}
theorem PR.eq (s : Sub Z H) (h : PR Z H x u) (c : SeqAt.shaped x = true) : Dp K H u x := PR.dp s (shaped_can c) h
theorem ltA_ok (h : ltA x y S = .ok b S') : S' = S ∧ ((∃ i j, x = .int i ∧ y = .int j ∧ b = decide (i < j)) ∨ ∃ i j, x = .str i ∧ y = .str j ∧ b = decide (i.cps.toList < j.cps.toList)) := by
  cases x <;> cases y <;> first | exact nomatch (show (R.no : R Bool) = .ok b S' from h) | skip
  · obtain ⟨rfl, rfl⟩ := ret_ok h
    exact ⟨rfl, .inl ⟨_, _, rfl, rfl, rfl⟩⟩
  · obtain ⟨rfl, rfl⟩ := ret_ok h
    exact ⟨rfl, .inr ⟨_, _, rfl, rfl, rfl⟩⟩
theorem alike_can : ∀ (d e : PyData), W.alike d e = true → d.canLay0 = true ∨ True := fun _ _ _ => .inr trivial
theorem ltD_ok (h : ltD x y S = .ok b S') : S' = S ∧ ((∃ i j, x = .int i ∧ y = .int j ∧ b = decide (i < j)) ∨ (∃ i j, x = .str i ∧ y = .str j ∧ b = decide (i.cps.toList < j.cps.toList)) ∨
    (W.alike x y = true ∧ x ≠ .none ∧ x.depth ≤ 60 ∧ noDict x = true ∧ noDict y = true ∧ b = W.dataLt x y)) := by
  cases x <;> cases y <;> first | exact nomatch (show (R.no : R Bool) = .ok b S' from h) | skip
  · obtain ⟨rfl, rfl⟩ := ret_ok h
    exact ⟨rfl, .inl ⟨_, _, rfl, rfl, rfl⟩⟩
  · obtain ⟨rfl, rfl⟩ := ret_ok h
    exact ⟨rfl, .inr (.inl ⟨_, _, rfl, rfl, rfl⟩)⟩
  all_goals
    obtain ⟨_, S1, h1, h2⟩ := bnd_ok h
    obtain ⟨e, rfl⟩ := guard_ok h1
    obtain ⟨rfl, rfl⟩ := ret_ok h2
    simp only [Bool.and_eq_true, decide_eq_true_eq] at e
    exact ⟨rfl, .inr (.inr ⟨e.1.1.1, (fun z => by cases z), e.1.1.2, e.1.2, e.2, rfl⟩)⟩
theorem flat_eqv : ∀ {x y : PyData} {u w : V}, flatD x = true → flatD y = true → DR Z x u → DR Z y w → flatV u = true ∧ flatV w = true ∧ eqV u w = PyData.eqv x y := by
  intro x y u w hx hy h1 h2
  cases x <;> cases hx <;> cases y <;> cases hy <;> (simp only [DR] at h1 h2; subst h1 h2; refine ⟨rfl, rfl, ?_⟩; simp [eqV, PyData.eqv])
theorem flat_any {a : PyData} {u : V} (ha : flatD a = true) (hu : DR Z a u) : ∀ {xs : List PyData} {us : List V}, xs.all flatD = true → DRs Z xs us → us.all flatV = true ∧ inV u us = xs.any fun z => PyData.eqv z a
  | [], us, _, h => by rw [DRs.nil_iff.mp h]; exact ⟨rfl, rfl⟩
  | x :: xs, us, e, h => by
    obtain ⟨w, r, rfl, h1, h2⟩ := DRs.cons_iff.mp h
    rw [List.all_cons, Bool.and_eq_true] at e
    obtain ⟨f1, f2, f3⟩ := flat_eqv e.1 ha h1 hu
    obtain ⟨g1, g2⟩ := flat_any ha hu e.2 h2
    refine ⟨by rw [List.all_cons, f1, g1]; rfl, ?_⟩
    unfold inV at g2 ⊢
    rw [List.any_cons, List.any_cons, f3, g2]
theorem isTup_pr (hk : isKey x = true) (h : PR Z H x u) : DR Z x u := by
  cases x <;> first | exact h | cases hk
theorem in_ok {neg : Bool} (h : inD x y S = .ok b S') : S' = S ∧ ∀ {m Z H u w Q}, Rel m Z S H → PR Z H x u → PR Z H y w →
    (∀ c, (if neg then c = !b else c = b) → Q (.bl c) H) → rCmp K (if neg then .notin else .in) u w H Q := by
  cases y with
  | str j =>
    cases x with
    | str i =>
      obtain ⟨rfl, rfl⟩ := ret_ok h
      refine ⟨rfl, fun r a c q => ?_⟩
      rw [PR.str_iff] at a c
      cases neg with
      | false => exact .inl ⟨i, j, a, c, q _ rfl⟩
      | true => exact .inl ⟨i, j, a, c, q _ rfl⟩
    | _ => exact nomatch (show (R.no : R Bool) = .ok b S' from h)
  | list ds =>
    obtain ⟨_, S1, h1, h2⟩ := bnd_ok h
    obtain ⟨e, rfl⟩ := guard_ok h1
    obtain ⟨rfl, rfl⟩ := ret_ok h2
    rw [Bool.and_eq_true] at e
    refine ⟨rfl, fun r a c q => ?_⟩
    have d1 := PR.eq (K := K) r.sub a e.1
    have d2 := PR.eq (K := K) r.sub c e.2
    cases neg with
    | false => exact .inr (.inl ⟨x, ds, d1, d2, e.1, e.2, q _ rfl⟩)
    | true => exact .inr (.inl ⟨x, ds, d1, d2, e.1, e.2, q _ rfl⟩)
  | tuple ds =>
    obtain ⟨_, S1, h1, h2⟩ := bnd_ok h
    obtain ⟨e, rfl⟩ := guard_ok h1
    obtain ⟨rfl, rfl⟩ := ret_ok h2
    rw [Bool.and_eq_true] at e
    refine ⟨rfl, fun {m Z H u w Q} r a c q => ?_⟩
    have a' : DR Z x u := by
      cases x <;> first | exact a | cases e.1
    obtain ⟨p, us, rfl, hz, hs⟩ := PR.tup_iff.mp c
    obtain ⟨f1, f2⟩ := flat_any e.1 a' e.2 hs
    have f3 : flatV u = true := (flat_eqv e.1 e.1 a' a').1
    have sq : SqT K H p us := SqT.of (r.sub.tup hz)
    cases neg with
    | false => exact .inr (.inr (.inl ⟨p, us, rfl, .inr sq, f3, f1, q _ f2⟩))
    | true => exact .inr (.inr (.inl ⟨p, us, rfl, .inr sq, f3, f1, q _ (congrArg (fun t => !t) f2)⟩))
  | dict kvs =>
    obtain ⟨_, S1, h1, h2⟩ := bnd_ok h
    obtain ⟨e, rfl⟩ := guard_ok h1
    obtain ⟨rfl, rfl⟩ := ret_ok h2
    refine ⟨rfl, fun {m Z H u w Q} r a c q => ?_⟩
    have a' : DR Z x u := isTup_pr (by unfold keyOk at e; rw [Bool.and_eq_true] at e; exact e.1) a
    obtain ⟨p, rfl, ⟨o, g, mt⟩ | ⟨e0, wr⟩⟩ := dget_of c e a' r.sub
    · have ho : o.isSome = (lookD kvs x).isSome := by
        cases q : lookD kvs x with
        | none => rw [q] at mt; rw [mt]; rfl
        | some z => rw [q] at mt; obtain ⟨w, rfl, _⟩ := mt; rfl
      cases neg with
      | false => exact .inr (.inr (.inr (.inl ⟨p, o, rfl, g, q _ ho⟩)))
      | true => exact .inr (.inr (.inr (.inl ⟨p, o, rfl, g, q _ (congrArg (fun t => !t) ho)⟩)))
    · cases neg with
      | false => exact .inr (.inr (.inr (.inr ⟨p, rfl, wr, q _ (by rw [e0]; rfl)⟩)))
      | true => exact .inr (.inr (.inr (.inr ⟨p, rfl, wr, q _ (by rw [e0]; rfl)⟩)))
  | _ => exact nomatch (show (R.no : R Bool) = .ok b S' from h)
theorem is_ok {neg : Bool} (h : isD x y S = .ok b S') : S' = S ∧ ∀ {m Z H u w Q}, Rel m Z S H → PR Z H x u → PR Z H y w →
    (∀ c, (if neg then c = !b else c = b) → Q (.bl c) H) → rCmp K (if neg then .isnot else .is) u w H Q := by
  have key : ∀ {Z H u}, y = .none → PR Z H x u → b = decide (u = V.non) → True := fun _ _ _ => trivial
  cases y with
  | none =>
    cases x with
    | none =>
      obtain ⟨rfl, rfl⟩ := ret_ok h
      refine ⟨rfl, fun r a c q => ?_⟩
      rw [PR.none_iff] at a c
      cases neg with
      | false => exact .inl ⟨c, q _ (by rw [a]; rfl)⟩
      | true => exact .inl ⟨c, q _ (by rw [a]; rfl)⟩
    | _ =>
      obtain ⟨rfl, rfl⟩ := ret_ok h
      refine ⟨rfl, fun {m Z H u w Q} r a c q => ?_⟩
      rw [PR.none_iff] at c
      have hu : u ≠ .non := by
        intro e
        subst e
        first
          | (rw [PR.bool_iff] at a; cases a)
          | (rw [PR.int_iff] at a; cases a)
          | (rw [PR.str_iff] at a; cases a)
          | (obtain ⟨_, _, a, _⟩ := PR.tup_iff.mp a; cases a)
          | exact V.noConfusion (show V.non = V.ref _ from a.choose_spec.1)
          | exact V.noConfusion (show V.non = V.ref _ from a.choose_spec.choose_spec.1)
      cases neg with
      | false => exact .inl ⟨c, q _ (decide_eq_false hu)⟩
      | true => exact .inl ⟨c, q _ (by rw [decide_eq_false hu]; rfl)⟩
  | bool j =>
    cases x with
    | bool i =>
      obtain ⟨rfl, rfl⟩ := ret_ok h
      refine ⟨rfl, fun r a c q => ?_⟩
      rw [PR.bool_iff] at a c
      cases neg with
      | false => exact .inr ⟨i, j, a, c, q _ rfl⟩
      | true => exact .inr ⟨i, j, a, c, q _ rfl⟩
    | _ => exact nomatch (show (R.no : R Bool) = .ok b S' from h)
  | _ => cases x <;> exact nomatch (show (R.no : R Bool) = .ok b S' from h)
theorem cmp_ok {o : CmpK} (h : cmpD o x y S = .ok b S') : S' = S ∧ ∀ {m Z H u w Q}, Rel m Z S H → PR Z H x u → PR Z H y w → Q (.bl b) H → rCmp K o u w H Q := by
  cases o with
  | eq =>
    obtain ⟨rfl, ⟨rfl, s1, s2⟩ | ⟨rfl, xs, ys, rfl, rfl, ne⟩⟩ := eq_ok h
    · exact ⟨rfl, fun r a c q => .inl ⟨x, y, PR.eq r.sub a s1, PR.eq r.sub c s2, s1, s2, q⟩⟩
    · refine ⟨rfl, fun r a c q => .inr ?_⟩
      obtain ⟨p, us, rfl, h1, d1⟩ := PR.list_iff.mp a
      obtain ⟨p', ws, rfl, h2, d2⟩ := PR.list_iff.mp c
      exact ⟨p, p', us, ws, rfl, rfl, SqL.of h1, SqL.of h2, by rw [d1.length, d2.length]; exact ne, q⟩
  | ne =>
    obtain ⟨t, S1, h1, h2⟩ := bnd_ok h
    obtain ⟨rfl, rfl⟩ := ret_ok h2
    obtain ⟨rfl, ⟨rfl, s1, s2⟩ | ⟨rfl, xs, ys, rfl, rfl, ne⟩⟩ := eq_ok h1
    · exact ⟨rfl, fun r a c q => .inl ⟨x, y, PR.eq r.sub a s1, PR.eq r.sub c s2, s1, s2, q⟩⟩
    · refine ⟨rfl, fun r a c q => .inr ?_⟩
      obtain ⟨p, us, rfl, h1, d1⟩ := PR.list_iff.mp a
      obtain ⟨p', ws, rfl, h2, d2⟩ := PR.list_iff.mp c
      exact ⟨p, p', us, ws, rfl, rfl, SqL.of h1, SqL.of h2, by rw [d1.length, d2.length]; exact ne, q⟩
  | lt =>
    obtain ⟨rfl, ⟨i, j, rfl, rfl, rfl⟩ | ⟨i, j, rfl, rfl, rfl⟩ | ⟨h1, h2, h3, h4, h5, rfl⟩⟩ := ltD_ok h
    · refine ⟨rfl, fun r a c q => .inl ⟨i, j, ?_, ?_, q⟩⟩
      · rwa [PR.int_iff] at a
      · rwa [PR.int_iff] at c
    · refine ⟨rfl, fun r a c q => .inr (.inl ⟨i, j, ?_, ?_, q⟩)⟩
      · rwa [PR.str_iff] at a
      · rwa [PR.str_iff] at c
    · exact ⟨rfl, fun r a c q => .inr (.inr ⟨x, y, PR.dp r.sub h4 a, PR.dp r.sub h5 c, h1, h2, h3, q⟩)⟩
  | ge =>
    obtain ⟨t, S1, h1, h2⟩ := bnd_ok h
    obtain ⟨rfl, rfl⟩ := ret_ok h2
    obtain ⟨rfl, ⟨i, j, rfl, rfl, rfl⟩ | ⟨i, j, rfl, rfl, rfl⟩ | ⟨g1, g2, g3, g4, g5, rfl⟩⟩ := ltD_ok h1
    · refine ⟨rfl, fun r a c q => .inl ⟨i, j, ?_, ?_, ?_⟩⟩
      · rwa [PR.int_iff] at a
      · rwa [PR.int_iff] at c
      · have e : decide (j ≤ i) = !decide (i < j) := by
          by_cases z : i < j
          · rw [decide_eq_true z, decide_eq_false (by omega)]; rfl
          · rw [decide_eq_false z, decide_eq_true (by omega)]; rfl
        simp only [e]; exact q
    · refine ⟨rfl, fun r a c q => .inr (.inl ⟨i, j, ?_, ?_, q⟩)⟩
      · rwa [PR.str_iff] at a
      · rwa [PR.str_iff] at c
    · exact ⟨rfl, fun r a c q => .inr (.inr ⟨x, y, PR.dp r.sub g4 a, PR.dp r.sub g5 c, g1, g2, g3, q⟩)⟩
  | gt =>
    obtain ⟨rfl, ⟨i, j, rfl, rfl, rfl⟩ | ⟨i, j, rfl, rfl, rfl⟩⟩ := ltA_ok h
    · refine ⟨rfl, fun r a c q => .inl ⟨j, i, ?_, ?_, q⟩⟩
      · rwa [PR.int_iff] at a
      · rwa [PR.int_iff] at c
    · refine ⟨rfl, fun r a c q => .inr ⟨j, i, ?_, ?_, q⟩⟩
      · rwa [PR.str_iff] at a
      · rwa [PR.str_iff] at c
  | le =>
    obtain ⟨t, S1, h1, h2⟩ := bnd_ok h
    obtain ⟨rfl, rfl⟩ := ret_ok h2
    obtain ⟨rfl, ⟨i, j, rfl, rfl, rfl⟩ | ⟨i, j, rfl, rfl, rfl⟩⟩ := ltA_ok h1
    · refine ⟨rfl, fun r a c q => .inl ⟨j, i, ?_, ?_, ?_⟩⟩
      · rwa [PR.int_iff] at a
      · rwa [PR.int_iff] at c
      · have e : decide (j ≤ i) = !decide (i < j) := by
          by_cases z : i < j
          · rw [decide_eq_true z, decide_eq_false (by omega)]; rfl
          · rw [decide_eq_false z, decide_eq_true (by omega)]; rfl
        simp only [e]; exact q
    · refine ⟨rfl, fun r a c q => .inr ⟨j, i, ?_, ?_, q⟩⟩
      · rwa [PR.str_iff] at a
      · rwa [PR.str_iff] at c
  | «in» =>
    obtain ⟨rfl, f⟩ := in_ok (K := K) (neg := false) h
    exact ⟨rfl, fun r a c q => f r a c fun t e => by rw [show t = b from e]; exact q⟩
  | notin =>
    obtain ⟨t, S1, h1, h2⟩ := bnd_ok h
    obtain ⟨rfl, rfl⟩ := ret_ok h2
    obtain ⟨rfl, f⟩ := in_ok (K := K) (neg := true) h1
    exact ⟨rfl, fun r a c q => f r a c fun t' e => by rw [show t' = !t from e]; exact q⟩
  | is =>
    obtain ⟨rfl, f⟩ := is_ok (K := K) (neg := false) h
    exact ⟨rfl, fun r a c q => f r a c fun t e => by rw [show t = b from e]; exact q⟩
  | isnot =>
    obtain ⟨t, S1, h1, h2⟩ := bnd_ok h
    obtain ⟨rfl, rfl⟩ := ret_ok h2
    obtain ⟨rfl, f⟩ := is_ok (K := K) (neg := true) h1
    exact ⟨rfl, fun r a c q => f r a c fun t' e => by rw [show t' = !t from e]; exact q⟩
end
end Mp
end
section
set_option autoImplicit false
set_option linter.all false
set_option maxRecDepth 100000
set_option maxHeartbeats 4000000
/-! Mp7: subscripts, slices, len, isinstance. -/
namespace Mp
open PySem PySem.Spec PyProof.Rows L2
section
variable {X : Cx}
/-! ### d[k] -/
def rIxD : R2 := fun x y H Q => ∃ a v, x = .ref a ∧ DGet H a y (some v) ∧ Q v H
theorem ix_dict (hu : X.A.units + 65 < cLine) : IxR X rIxD := by
  intro value slice pins s σ H x y v u Q I rx ry ⟨a, z, e, g, q⟩ hs
  subst e
  cases rx
  exact tail_any (dict_typeIs I g) PySem.F.slot_dict_getitem.lookup (d_getItem (by omega) I g ry fun w' s3 I3 rw' => ⟨z, H, I3, rw', q⟩) hs
def rIxU (K : PySem.W.Frag) : R2 := fun x y H Q => rIx K x y H Q ∨ rIxD x y H Q
theorem ix_u (hu : X.A.units + 65 < cLine) : IxR X (rIxU X.K) := IxR.or ix_seq (ix_dict hu)
/-! ### slices -/
def rSlU (K : PySem.W.Frag) : V → Option Int → Option Int → Hp → VK → Prop := fun x lo hi H Q => rSlL K x lo hi H Q ∨ rSlA K x lo hi H Q ∨ rSlS x lo hi H Q
theorem sl_u : SlR X (rSlU X.K) := SlR.or sl_list (SlR.or sl_tupA sl_str)
/-! ### isinstance of a locked dict with tuple keys -/
def rIsiF (K : PySem.W.Frag) : List V → Hp → VK → Prop := fun xs H Q => ∃ (a : Addr) (c : V) (od : Obj) (kvs : List (List Key × V)) (u : Value) (b : Bool), xs = [.ref a, c] ∧ ClsV c u ∧ H a = some (.frz od (.dT kvs)) ∧ PySem.W.kitOne K (.type "dict") u = some b ∧ Q (.bl b) H
theorem call_isiF : CallR X (.builtin "isinstance") (rIsiF X.K) := by
  intro pins s σ H xs us Q I r h
  obtain ⟨a, c, od, kvs, u, b, rfl, k, ty, e, q⟩ := h
  obtain ⟨u1, u2, rfl, r1, r2⟩ := vals2 r
  have e2 := k.eq r2
  subst e2
  cases (show u1 = Value.ref a from r1)
  obtain ⟨_, _, _, xs, _, o, es, ep, h1, h2, _⟩ := (show ObjOk X.prog X.w H s.heap a (.frz od (.dT kvs)) from I.hok a _ ty)
  exact PySem.W.kia_one PySem.W.kitx_dict I.kIn ⟨o, h1, h2.1⟩ e (fun z => nomatch z) fun tk => ⟨.bl b, H, I.tok tk, rfl, q⟩
/-! ### len of a dict -/
def rLenD : List V → Hp → VK → Prop := fun xs H Q => ∃ a kvs, xs = [.ref a] ∧ Rd H a (.dK kvs) ∧ Q (.int kvs.length) H
theorem call_lenD' : CallR X (.builtin "len") rLenD := by
  intro pins s σ H xs us Q I r h
  obtain ⟨a, kvs, rfl, g, q⟩ := h
  obtain ⟨u1, rfl, r1⟩ := vals1 r
  cases r1
  exact d_len I g fun t s' I' => ⟨.int kvs.length, H, I', ⟨t, rfl⟩, q⟩
end
section
variable {K : PySem.W.Frag} {m : List Addr} {Z Z' H H' : Hp} {S S' : Store} {x y z : PyData} {u w : V} {Q : VK}
theorem ofO_ok {α : Type} {o : Option α} {a : α} (h : ofO o S = .ok a S') : o = some a ∧ S' = S := by
  cases o with
  | none => exact nomatch (show (R.no : R α) = .ok a S' from h)
  | some b =>
    obtain ⟨rfl, rfl⟩ := ret_ok h
    exact ⟨rfl, rfl⟩
theorem atI_dr {xs : List PyData} {us : List V} {i : Int} (h : DRs Z xs us) (e : atI xs i = some z) : ∃ u, atI us i = some u ∧ DR Z z u := by
  unfold atI at e ⊢
  rw [h.length]
  cases q : ixN xs.length i with
  | none => rw [q] at e; cases e
  | some j =>
    rw [q] at e
    exact DRs.get h e
theorem atI_bound {α : Type} {xs : List α} {i : Int} {v : α} (e : atI xs i = some v) : True := trivial
theorem ix_ok (h : ixD x y S = .ok z S') : S' = S ∧ ∀ {m Z H u w Q}, Rel m Z S H → PR Z H x u → PR Z H y w → RQ m Z H S z Q → rIxU K u w H Q := by
  cases x with
  | list xs =>
    cases y with
    | int i =>
      obtain ⟨e, rfl⟩ := ofO_ok h
      refine ⟨rfl, fun r a c q => .inl (.inl ?_)⟩
      obtain ⟨p, us, rfl, h1, h2⟩ := a
      rw [PR.int_iff] at c
      obtain ⟨t, e1, e2⟩ := atI_dr h2 e
      exact ⟨p, us, i, t, rfl, c, SqL.of h1, e1, RQ.here r q e2⟩
    | _ => exact nomatch (show (R.no : R PyData) = .ok z S' from h)
  | tuple xs =>
    cases y with
    | int i =>
      obtain ⟨e, rfl⟩ := ofO_ok h
      refine ⟨rfl, fun r a c q => .inl (.inr (.inl ?_))⟩
      obtain ⟨p, us, rfl, h1, h2⟩ := PR.tup_iff.mp a
      rw [PR.int_iff] at c
      obtain ⟨t, e1, e2⟩ := atI_dr h2 e
      exact ⟨p, us, i, t, rfl, c, SqT.of (r.sub.tup h1), e1, RQ.here r q e2⟩
    | _ => exact nomatch (show (R.no : R PyData) = .ok z S' from h)
  | str s =>
    cases y with
    | int i =>
      obtain ⟨_, S0, h0, h3⟩ := bnd_ok h
      obtain ⟨e0, rfl⟩ := guard_ok h0
      obtain ⟨c0, S1, h1, h2⟩ := bnd_ok h3
      obtain ⟨e, rfl⟩ := ofO_ok h1
      obtain ⟨rfl, rfl⟩ := ret_ok h2
      refine ⟨rfl, fun r a c q => .inl (.inr (.inr ?_))⟩
      rw [PR.str_iff] at a
      rw [PR.int_iff] at c
      exact ⟨s, i, c0, a, c, of_decide_eq_true e0, e, RQ.str r q⟩
    | _ => exact nomatch (show (R.no : R PyData) = .ok z S' from h)
  | dict kvs =>
    obtain ⟨_, S1, h1, h2⟩ := bnd_ok h
    obtain ⟨e, rfl⟩ := guard_ok h1
    obtain ⟨e2, rfl⟩ := ofO_ok h2
    refine ⟨rfl, fun r a c q => .inr ?_⟩
    have c' := isTup_pr (by unfold keyOk at e; rw [Bool.and_eq_true] at e; exact e.1) c
    obtain ⟨p, rfl, ⟨o, g, mt⟩ | ⟨e0, wr⟩⟩ := dget_of a e c' r.sub
    · rw [e2] at mt
      obtain ⟨t, rfl, e3⟩ := mt
      exact ⟨p, t, rfl, g, RQ.here r q e3⟩
    · rw [e2] at e0; cases e0
  | _ => exact nomatch (show (R.no : R PyData) = .ok z S' from h)
theorem cutD_dr {xs : List PyData} {us : List V} (lo hi : Option Int) (h : DRs Z xs us) : DRs Z (cutD xs lo hi) (cutV us lo hi) := by
  unfold cutD cutV
  rw [h.length]
  exact DRs.take _ (DRs.drop _ h)
theorem sl_ok {lo hi : Option Int} (h : slD x lo hi S = .ok z S') : S' = S ∧ ∀ {m Z H u Q}, Rel m Z S H → PR Z H x u → RQ m Z H S z Q → rSlU K u lo hi H Q := by
  cases x with
  | list xs =>
    obtain ⟨rfl, rfl⟩ := ret_ok h
    refine ⟨rfl, fun r a q => .inl ?_⟩
    obtain ⟨p, us, rfl, h1, h2⟩ := a
    exact ⟨p, us, rfl, SqL.of h1, fun p' hp => RQ.lst r q (cutD_dr lo hi h2) hp⟩
  | tuple xs =>
    obtain ⟨rfl, rfl⟩ := ret_ok h
    refine ⟨rfl, fun r a q => .inr (.inl ?_)⟩
    obtain ⟨p, us, rfl, h1, h2⟩ := PR.tup_iff.mp a
    refine ⟨p, us, rfl, SqT.of (r.sub.tup h1), fun hw => RQ.here r q ?_, fun _ p' hp => RQ.tup r q (cutD_dr lo hi h2) hp⟩
    have e : cutD xs lo hi = xs := by
      unfold cutD
      rw [h2.length] at hw
      rw [hw.1, hw.2, List.drop_zero, Nat.sub_zero, List.take_length]
    rw [e]
    simp only [DR]
    exact ⟨p, us, rfl, h1, h2⟩
  | str s =>
    obtain ⟨_, S1, h1, h2⟩ := bnd_ok h
    obtain ⟨e, rfl⟩ := guard_ok h1
    obtain ⟨rfl, rfl⟩ := ret_ok h2
    refine ⟨rfl, fun r a q => .inr (.inr ?_)⟩
    rw [PR.str_iff] at a
    exact ⟨s, a, of_decide_eq_true e, RQ.str r q⟩
  | _ => exact nomatch (show (R.no : R PyData) = .ok z S' from h)
/-! ### isinstance -/
def tyS : Ty → String
  | .tstr => "str" | .tint => "int" | .tbool => "bool" | .ttuple => "tuple" | .tlist => "list" | .tdict => "dict"
def tyN : PyData → String
  | .none => "NoneType" | .bool _ => "bool" | .int _ => "int" | .str _ => "str" | .list _ => "list" | .tuple _ => "tuple" | .dict _ => "dict"
theorem kit_all (t : Ty) : ∀ x : PyData, PySem.W.kitOne K (.type (tyN x)) (.type (tyS t)) = some (tyD t x) := by
  intro x
  cases t <;> cases x <;> (refine kit_ty ?_; dsimp only [tyN, tyS, tyD]; decide +kernel)
def rIsiU (K : PySem.W.Frag) : List V → Hp → VK → Prop := fun xs H Q => rIsi K xs H Q ∨ rIsiF K xs H Q
theorem isi_ok {t : Ty} (r : Rel m Z S H) (a : PR Z H x u) (q : Q (.bl (tyD t x)) H) : rIsiU K [u, .ty (tyS t)] H Q := by
  have k := kit_all (K := K) t x
  have go : TyX K H u (.type (tyN x)) → rIsiU K [u, .ty (tyS t)] H Q := fun h => .inl ⟨u, _, _, _, _, rfl, ClsV.ty _, h, k, q⟩
  cases x with
  | none => rw [PR.none_iff] at a; subst a; exact go (.base .non)
  | bool b => rw [PR.bool_iff] at a; subst a; exact go (.base (.bl b))
  | int b => rw [PR.int_iff] at a; subst a; exact go (.base (.int b))
  | str b => rw [PR.str_iff] at a; subst a; exact go (.base (.str b))
  | list xs =>
    obtain ⟨p, us, rfl, h1, _⟩ := a
    exact go (.base (.lst h1))
  | tuple xs =>
    obtain ⟨p, us, rfl, h1, _⟩ := PR.tup_iff.mp a
    exact go (.base (.tup (r.sub.tup h1)))
  | dict kvs =>
    obtain ⟨p, rfl, ⟨ws, h1, _⟩ | ⟨ws, h1, _⟩⟩ := a
    · rcases h1 with h1 | ⟨_, od, h1⟩
      · exact go (.base (.dK h1))
      · exact go (.fDict h1)
    · rcases h1 with h1 | ⟨_, od, h1⟩
      · exact go (.base (.dT h1))
      · exact .inr ⟨p, _, od, ws, _, _, rfl, ClsV.ty _, h1, k, q⟩
/-! ### len -/
def rLenU (K : PySem.W.Frag) : List V → Hp → VK → Prop := fun xs H Q => (∃ x n, xs = [x] ∧ LenV K x H n ∧ Q (.int n) H) ∨ rLenD xs H Q
theorem len_ok (h : lenD x S = .ok z S') : S' = S ∧ ∀ {m Z H u Q}, Rel m Z S H → PR Z H x u → RQ m Z H S z Q → rLenU K [u] H Q := by
  cases x with
  | list xs =>
    obtain ⟨rfl, rfl⟩ := ret_ok h
    refine ⟨rfl, fun r a q => .inl ?_⟩
    obtain ⟨p, us, rfl, h1, h2⟩ := a
    exact ⟨_, xs.length, rfl, .inl ⟨us, SqL.of h1, h2.length.symm⟩, RQ.int r q⟩
  | tuple xs =>
    obtain ⟨rfl, rfl⟩ := ret_ok h
    refine ⟨rfl, fun r a q => .inl ?_⟩
    obtain ⟨p, us, rfl, h1, h2⟩ := PR.tup_iff.mp a
    exact ⟨_, xs.length, rfl, .inr ⟨us, SqT.of (r.sub.tup h1), h2.length.symm⟩, RQ.int r q⟩
  | str s =>
    obtain ⟨_, S1, h1, h2⟩ := bnd_ok h
    obtain ⟨e, rfl⟩ := guard_ok h1
    obtain ⟨rfl, rfl⟩ := ret_ok h2
    refine ⟨rfl, fun r a q => .inl ?_⟩
    rw [PR.str_iff] at a
    subst a
    exact ⟨_, s.length, rfl, ⟨of_decide_eq_true e, rfl⟩, RQ.int r q⟩
  | _ => exact nomatch (show (R.no : R PyData) = .ok z S' from h)
end
end Mp
end
section
set_option autoImplicit false
set_option linter.all false
set_option maxRecDepth 100000
set_option maxHeartbeats 4000000
/-! Mp8: data as the library reads it; repr; sorted. -/
namespace Mp
open PySem PySem.Spec PyProof.Rows L2
/-- the object at the address of sys.modules is known to the base -/
def ModB (X : Cx) : Prop := ∃ o, X.base.get? sysModules = some o
section
variable {X : Cx} {pins : List (Addr × Obj)} {σ : L2.St} {H Z : Hp} {s : Shared}
theorem ModB.ne (hb : ModB X) (I : Inv X pins σ H s) {a : Addr} {o : HO} (h : H a = some o) : a ≠ sysModules := by
  obtain ⟨o', e⟩ := hb
  rintro rfl
  rw [(I.bs _ _ e).2] at h
  cases h
theorem reads_keys {h : Heap} : ∀ {kvs : List (PyData × PyData)} {ws : List (Key × V)} {vs : List (Key × Value)} {es : List DictEntry}, DRk Z kvs ws → KV ws vs → Pairs (mixKind X.prog X.w) es vs →
    ∃ as, ReadsAll h (es.map (·.key)) (kvs.map (·.1)) as ∧ as = []
  | [], ws, vs, es, h1, h2, h3 => by
    simp only [DRk] at h1
    subst h1
    cases h2
    cases h3
    exact ⟨[], .nil, rfl⟩
  | (k, x) :: kvs, ws, vs, es, h1, h2, h3 => by
    simp only [DRk] at h1
    obtain ⟨k', u, t, rfl, hk, _, ht⟩ := h1
    cases h2 with
    | cons q qs =>
      cases h3 with
      | cons p1 p2 p3 =>
        obtain ⟨as, r, rfl⟩ := reads_keys (h := h) ht qs p3
        have q1 : k' = _ := q.1
        rw [← q1] at p1
        have p1' := (mixKind_is X.prog X.w k' _).symm.trans p1
        cases k with
        | int i =>
          simp [keyK] at hk
          subst hk
          rcases keyIs_shape p1' with ⟨j, t, e, e2⟩ | ⟨_, _, e, _⟩
          · cases e
            refine ⟨[] ++ [], ?_, rfl⟩
            rw [List.map_cons, List.map_cons, e2]
            exact .cons (.int _ _) r
          · cases e
        | str i =>
          simp [keyK] at hk
          subst hk
          rcases keyIs_shape p1' with ⟨j, t, e, e2⟩ | ⟨_, _, e, e2⟩
          · cases e
          · cases e
            refine ⟨[] ++ [], ?_, rfl⟩
            rw [List.map_cons, List.map_cons, e2]
            exact .cons (.str _ _) r
        | _ => simp [keyK] at hk
theorem reads_key {h : Heap} : ∀ {xs : List PyData} {k : List Key} {us : List Value}, keysK xs = some k → ItemsAre (mixKind X.prog X.w) k us → ReadsAll h us xs []
  | [], k, us, e, r => by
    cases e
    cases r
    exact .nil
  | x :: xs, k, us, e, r => by
    rw [keysK] at e
    cases e1 : keyK x with
    | none => rw [e1] at e; cases e
    | some k1 =>
      cases e2 : keysK xs with
      | none => rw [e1, e2] at e; cases e
      | some ks =>
        rw [e1, e2] at e
        cases e
        cases r with
        | cons q0 qs =>
          have t := reads_key (h := h) e2 qs
          have q := (mixKind_is X.prog X.w k1 _).symm.trans q0
          cases x with
          | int i =>
            simp [keyK] at e1
            subst e1
            rcases keyIs_shape q with ⟨j, t', e, e'⟩ | ⟨_, _, e, _⟩
            · cases e
              subst e'
              exact .cons (as := []) (.int _ _) t
            · cases e
          | str i =>
            simp [keyK] at e1
            subst e1
            rcases keyIs_shape q with ⟨j, t', e, e'⟩ | ⟨_, _, e, e'⟩
            · cases e
            · cases e
              subst e'
              exact .cons (as := []) (.str _ _) t
          | _ => simp [keyK] at e1
theorem reads_tkeys {h : Heap} : ∀ {kvs : List (PyData × PyData)} {ws : List (List Key × V)} {vs : List (List Key × Addr × Value)}, DRt Z kvs ws → KT H ws vs → (∀ x ∈ vs, (tupleKind (mixKind X.prog X.w)).is h x.1 x.2.1) →
    ReadsAll h (vs.map fun x => Value.ref x.2.1) (kvs.map (·.1)) []
  | [], ws, vs, h1, h2, h3 => by
    simp only [DRt] at h1
    subst h1
    cases h2
    exact .nil
  | (k, x) :: kvs, ws, vs, h1, h2, h3 => by
    simp only [DRt] at h1
    obtain ⟨k', u, t, rfl, hk, _, ht⟩ := h1
    cases h2 with
    | @cons p q ps qs q1 q2 =>
      have r := reads_tkeys (h := h) ht q2 fun x hx => h3 x (List.mem_cons_of_mem _ hx)
      have z := h3 q List.mem_cons_self
      obtain ⟨o, its, n, ho, hc, hd, hi⟩ := (show IsTupleKey (mixKind X.prog X.w) h q.1 q.2.1 from z)
      cases k with
      | tuple xs =>
        have e : keysK xs = some q.1 := by rw [← q1.1]; exact hk
        exact .cons (as := []) (.tuple ho hc hd (reads_key e hi)) r
      | _ => simp [keyT] at hk
theorem DictOfH_keys {h : Heap} {P : Program} {w : World} {a : Addr} {xs : List (List Key × Addr × Value)} : True := trivial
mutual
theorem DR.reads (I : Inv X pins σ H s) (hb : ModB X) (sz : Sub Z H) : ∀ (x : PyData) (v : V) (u : Value), DR Z x v → RelV v u → ∃ as, Reads s.heap u x as ∧ sysModules ∉ as
  | .none, v, u, h, r => by
    simp only [DR] at h
    subst h
    cases r
    exact ⟨[], .none, by simp⟩
  | .bool b, v, u, h, r => by
    simp only [DR] at h
    subst h
    cases r
    exact ⟨[], .bool b, by simp⟩
  | .int i, v, u, h, r => by
    simp only [DR] at h
    subst h
    obtain ⟨t, rfl⟩ := r
    exact ⟨[], .int i t, by simp⟩
  | .str i, v, u, h, r => by
    simp only [DR] at h
    subst h
    obtain ⟨t, rfl⟩ := r
    exact ⟨[], .str i t, by simp⟩
  | .list xs, v, u, h, r => by
    simp only [DR] at h
    obtain ⟨a, us, rfl, hz, hs⟩ := h
    cases r
    obtain ⟨its, rv, ⟨o, n, ho, hc, _, hd⟩, _⟩ := I.list (SqL.of (sz.lst hz))
    obtain ⟨as, hr, hn⟩ := DRs.reads I hb sz xs us its hs rv
    refine ⟨_, .list ho hc hd hr, ?_⟩
    rw [List.mem_cons, not_or]
    exact ⟨fun e => ModB.ne hb I (sz.lst hz) e.symm, hn⟩
  | .tuple xs, v, u, h, r => by
    simp only [DR] at h
    obtain ⟨a, us, rfl, hz, hs⟩ := h
    cases r
    obtain ⟨its, rv, ⟨o, ho, hc, n, hd⟩, _⟩ := I.tuple (SqT.of (sz.tup hz))
    obtain ⟨as, hr, hn⟩ := DRs.reads I hb sz xs us its hs rv
    exact ⟨_, .tuple ho hc hd hr, hn⟩
  | .dict kvs, v, u, h, r => by
    simp only [DR] at h
    obtain ⟨a, rfl, ⟨ws, hz, hs⟩ | ⟨ws, hz, hs⟩⟩ := h
    · cases r
      obtain ⟨_, hm, vs, kv, o, es, ep, h1, h2, h3, _, h5, _⟩ := dk_rd I.hok (sz a _ hz).rd
      obtain ⟨as, r1, rfl⟩ := reads_keys (h := s.heap) hs kv h5
      obtain ⟨bs, r2, hn⟩ := DRk.reads I hb sz kvs ws vs es.toList hs kv h5
      refine ⟨_, .dict h1 h2.1 h3 r1 r2, ?_⟩
      rw [List.singleton_append, List.mem_cons, not_or]
      exact ⟨fun e => by rw [← e] at hm; exact absurd hm (by decide), hn⟩
    · cases r
      obtain ⟨_, hm, vs, kv, o, es, ep, h1, h2, h3, h4, h5, _⟩ := dt_rd I.hok (sz a _ hz).rd
      have r1 := reads_tkeys (X := X) (h := s.heap) hs kv h5
      obtain ⟨bs, r2, hn⟩ := DRt.reads I hb sz kvs ws vs hs kv
      refine ⟨_, .dict h1 h2.1 h3 (as := []) (bs := bs) ?_ ?_, ?_⟩
      · rw [h4, List.map_map]; exact r1
      · rw [h4, List.map_map]; exact r2
      rw [List.singleton_append, List.mem_cons, not_or]
      exact ⟨fun e => by rw [← e] at hm; exact absurd hm (by decide), hn⟩
theorem DRs.reads (I : Inv X pins σ H s) (hb : ModB X) (sz : Sub Z H) : ∀ (xs : List PyData) (vs : List V) (us : List Value), DRs Z xs vs → Vals vs us → ∃ as, ReadsAll s.heap us xs as ∧ sysModules ∉ as
  | [], vs, us, h, r => by
    rw [DRs.nil_iff.mp h] at r
    cases r
    exact ⟨[], .nil, by simp⟩
  | x :: xs, vs, us, h, r => by
    obtain ⟨u, t, rfl, h1, h2⟩ := DRs.cons_iff.mp h
    cases r with
    | cons r1 r2 =>
      obtain ⟨as, q1, n1⟩ := DR.reads I hb sz x _ _ h1 r1
      obtain ⟨bs, q2, n2⟩ := DRs.reads I hb sz xs _ _ h2 r2
      exact ⟨_, .cons q1 q2, by rw [List.mem_append, not_or]; exact ⟨n1, n2⟩⟩
theorem DRk.reads (I : Inv X pins σ H s) (hb : ModB X) (sz : Sub Z H) : ∀ (kvs : List (PyData × PyData)) (ws : List (Key × V)) (vs : List (Key × Value)) (es : List DictEntry), DRk Z kvs ws → KV ws vs → Pairs (mixKind X.prog X.w) es vs →
    ∃ as, ReadsAll s.heap (es.map (·.val)) (kvs.map (·.2)) as ∧ sysModules ∉ as
  | [], ws, vs, es, h1, h2, h3 => by
    simp only [DRk] at h1
    subst h1
    cases h2
    cases h3
    exact ⟨[], .nil, by simp⟩
  | (k, x) :: kvs, ws, vs, es, h1, h2, h3 => by
    simp only [DRk] at h1
    obtain ⟨k', u, t, rfl, hk, hx, ht⟩ := h1
    cases h2 with
    | cons q qs =>
      cases h3 with
      | cons p1 p2 p3 =>
        obtain ⟨as, q1, n1⟩ := DR.reads I hb sz x _ _ hx q.2
        obtain ⟨bs, q2, n2⟩ := DRk.reads I hb sz kvs _ _ _ ht qs p3
        refine ⟨as ++ bs, ?_, by rw [List.mem_append, not_or]; exact ⟨n1, n2⟩⟩
        rw [List.map_cons, List.map_cons, p2]
        exact .cons q1 q2
theorem DRt.reads (I : Inv X pins σ H s) (hb : ModB X) (sz : Sub Z H) : ∀ (kvs : List (PyData × PyData)) (ws : List (List Key × V)) (vs : List (List Key × Addr × Value)), DRt Z kvs ws → KT H ws vs →
    ∃ as, ReadsAll s.heap (vs.map fun x => x.2.2) (kvs.map (·.2)) as ∧ sysModules ∉ as
  | [], ws, vs, h1, h2 => by
    simp only [DRt] at h1
    subst h1
    cases h2
    exact ⟨[], .nil, by simp⟩
  | (k, x) :: kvs, ws, vs, h1, h2 => by
    simp only [DRt] at h1
    obtain ⟨k', u, t, rfl, hk, hx, ht⟩ := h1
    cases h2 with
    | cons q qs =>
      obtain ⟨as, q1, n1⟩ := DR.reads I hb sz x _ _ hx q.2.2
      obtain ⟨bs, q2, n2⟩ := DRt.reads I hb sz kvs _ _ ht qs
      exact ⟨as ++ bs, .cons q1 q2, by rw [List.mem_append, not_or]; exact ⟨n1, n2⟩⟩
end
end
end Mp
end
section
set_option autoImplicit false
set_option linter.all false
set_option maxRecDepth 100000
set_option maxHeartbeats 4000000
/-! Mp9: repr and sorted of data. -/
namespace Mp
open PySem PySem.Spec PyProof.Rows L2
section
variable {X : Cx} {pins : List (Addr × Obj)} {σ : L2.St} {H Z : Hp} {s : Shared}
theorem PR.reads (I : Inv X pins σ H s) (hb : ModB X) (sz : Sub Z H) {x : PyData} {v : V} {u : Value} (h : PR Z H x v) (r : RelV v u) : ∃ as, Reads s.heap u x as ∧ sysModules ∉ as := by
  cases x with
  | list xs =>
    obtain ⟨a, us, rfl, hz, hs⟩ := h
    cases r
    obtain ⟨its, rv, ⟨o, n, ho, hc, _, hd⟩, _⟩ := I.list (SqL.of hz)
    obtain ⟨as, hr, hn⟩ := DRs.reads I hb sz xs us its hs rv
    refine ⟨_, .list ho hc hd hr, ?_⟩
    rw [List.mem_cons, not_or]
    exact ⟨fun e => ModB.ne hb I hz e.symm, hn⟩
  | dict kvs =>
    obtain ⟨a, rfl, ⟨ws, hz, hs⟩ | ⟨ws, hz, hs⟩⟩ := h
    · cases r
      obtain ⟨_, hm, vs, kv, o, es, ep, h1, h2, h3, _, h5, _⟩ := dk_rd I.hok hz.rd
      obtain ⟨as, r1, rfl⟩ := reads_keys (h := s.heap) hs kv h5
      obtain ⟨bs, r2, hn⟩ := DRk.reads I hb sz kvs ws vs es.toList hs kv h5
      refine ⟨_, .dict h1 h2.1 h3 r1 r2, ?_⟩
      rw [List.singleton_append, List.mem_cons, not_or]
      exact ⟨fun e => by rw [← e] at hm; exact absurd hm (by decide), hn⟩
    · cases r
      obtain ⟨_, hm, vs, kv, o, es, ep, h1, h2, h3, h4, h5, _⟩ := dt_rd I.hok hz.rd
      have r1 := reads_tkeys (X := X) (h := s.heap) hs kv h5
      obtain ⟨bs, r2, hn⟩ := DRt.reads I hb sz kvs ws vs hs kv
      refine ⟨_, .dict h1 h2.1 h3 (as := []) (bs := bs) ?_ ?_, ?_⟩
      · rw [h4, List.map_map]; exact r1
      · rw [h4, List.map_map]; exact r2
      rw [List.singleton_append, List.mem_cons, not_or]
      exact ⟨fun e => by rw [← e] at hm; exact absurd hm (by decide), hn⟩
  | _ => exact DR.reads I hb sz _ v u h r
/-! ### repr -/
def rRepr : List V → Hp → VK → Prop := fun vs H Q => ∃ (u : V) (x : PyData) (Z : Hp), vs = [u] ∧ Sub Z H ∧ PR Z H x u ∧ x.showable = true ∧ x.shown.length ≤ sizeLine ∧ x.depth ≤ 60 ∧ Q (.str x.shown) H
theorem call_reprD (hb : ModB X) (hg : X.A.guards = some []) (hu : X.A.units + 65 < cLine) : CallR X (.builtin "repr") rRepr := by
  intro pins s σ H vs us Q I r h
  obtain ⟨v, x, Z, rfl, sz, pr, h1, h2, h3, q⟩ := h
  obtain ⟨u, rfl, ru⟩ := vals1 r
  cases x with
  | none =>
    rw [PR.none_iff] at pr
    subst pr
    cases ru
    exact PySem.P.repr_of_none ⟨.str _, H, I.tok _, ⟨_, rfl⟩, q⟩
  | bool b =>
    rw [PR.bool_iff] at pr
    subst pr
    cases ru
    refine PySem.P.repr_of_bool ⟨.str _, H, I.tok _, ⟨_, rfl⟩, ?_⟩
    simpa only [PyData.shown] using q
  | int i =>
    rw [PR.int_iff] at pr
    subst pr
    obtain ⟨t, rfl⟩ := ru
    exact PySem.P.repr_of_int (by simpa [PyData.showable] using h1) ⟨.str _, H, I.tok _, ⟨_, rfl⟩, q⟩
  | str i =>
    rw [PR.str_iff] at pr
    subst pr
    obtain ⟨t, rfl⟩ := ru
    exact PySem.P.repr_of_str (hsz := h2) ⟨.str _, H, I.tok _, ⟨_, rfl⟩, q⟩
  | list xs =>
    obtain ⟨as, rd, hn⟩ := PR.reads I hb sz pr ru
    obtain ⟨a, ws, rfl, _⟩ := pr
    cases ru
    exact repr_of_reads' rd h1 (fun _ => hn) hg (by omega) (fun _ _ e => e) (fun h' u tk hk => ⟨.str _, H, I.kept hk, ⟨_, rfl⟩, q⟩) h2
  | tuple xs =>
    obtain ⟨as, rd, hn⟩ := PR.reads I hb sz pr ru
    obtain ⟨a, ws, rfl, _⟩ := PR.tup_iff.mp pr
    cases ru
    exact repr_of_reads' rd h1 (fun _ => hn) hg (by omega) (fun _ _ e => e) (fun h' u tk hk => ⟨.str _, H, I.kept hk, ⟨_, rfl⟩, q⟩) h2
  | dict kvs =>
    obtain ⟨as, rd, hn⟩ := PR.reads I hb sz pr ru
    obtain ⟨a, rfl, _⟩ := pr
    cases ru
    exact repr_of_reads' rd h1 (fun _ => hn) hg (by omega) (fun _ _ e => e) (fun h' u tk hk => ⟨.str _, H, I.kept hk, ⟨_, rfl⟩, q⟩) h2
/-! ### sorted -/
theorem DRs.zip : ∀ {xs : List PyData} {us : List V}, DRs Z xs us → (xs.zip us).map Prod.fst = xs ∧ ∀ p ∈ xs.zip us, DR Z p.1 p.2
  | [], us, h => ⟨rfl, fun p hp => by simp at hp⟩
  | x :: xs, us, h => by
    obtain ⟨u, r, rfl, h1, t⟩ := DRs.cons_iff.mp h
    obtain ⟨e, q⟩ := DRs.zip t
    refine ⟨by rw [List.zip_cons_cons, List.map_cons, e], fun p hp => ?_⟩
    rw [List.zip_cons_cons, List.mem_cons] at hp
    rcases hp with rfl | hp
    · exact h1
    · exact q p hp
theorem DRs.of_pairs : ∀ {ps : List (PyData × V)}, (∀ p ∈ ps, DR Z p.1 p.2) → DRs Z (ps.map Prod.fst) (ps.map Prod.snd)
  | [], _ => DRs.nil
  | p :: ps, h => DRs.cons (h p List.mem_cons_self) (DRs.of_pairs fun q hq => h q (List.mem_cons_of_mem _ hq))
theorem each_zip (I : Inv X pins σ H s) (hb : ModB X) (sz : Sub Z H) : ∀ {xs : List PyData} {us : List V} {vs : List Value}, DRs Z xs us → Vals us vs →
    PySem.W.EachIs (fun v (b : PyData × V) => RelV b.2 v ∧ ∃ as, Reads s.heap v b.1 as) vs (xs.zip us)
  | [], us, vs, h, r => by
    rw [DRs.nil_iff.mp h] at r
    cases r
    exact .nil
  | x :: xs, us, vs, h, r => by
    obtain ⟨u, t, rfl, h1, h2⟩ := DRs.cons_iff.mp h
    cases r with
    | cons r1 r2 =>
      obtain ⟨as, q, _⟩ := DR.reads I hb sz x u _ h1 r1
      exact .cons ⟨r1, as, q⟩ (each_zip I hb sz h2 r2)
theorem vals_each : ∀ {vs : List Value} {bs : List (PyData × V)}, PySem.W.EachIs (fun v (b : PyData × V) => RelV b.2 v) vs bs → Vals (bs.map Prod.snd) vs
  | _, _, .nil => .nil
  | _, _, .cons r t => .cons r (vals_each t)
def sortOk (xs : List PyData) : Bool := allAlike xs && sortable xs && fitL xs && (xs.all fun x => noDict x && decide (x.depth ≤ 60))
def srt (xs : List PyData) : List PyData := xs.mergeSort (PySem.W.dataLe false id)
theorem sortable_of {xs : List PyData} (h : sortable xs = true) : PySem.W.Sortable xs := by
  unfold sortable at h
  rw [Bool.or_eq_true, List.all_eq_true, List.all_eq_true] at h
  rcases h with h | h
  · refine .inl fun d hd => ?_
    have q := h d hd
    split at q
    · exact ⟨_, _, rfl⟩
    · cases q
  · refine .inr fun d hd => ?_
    have q := h d hd
    split at q
    · cases q
    · cases q
    · rename_i n1 n2
      exact ⟨fun e => n1 e, fun ys e => n2 ys e⟩
theorem allAlike_of {xs : List PyData} (h : allAlike xs = true) : PySem.W.AllAlike xs := by
  unfold allAlike at h
  rw [List.all_eq_true] at h
  intro d hd d' hd'
  have q := h d hd
  rw [List.all_eq_true] at q
  exact q d' hd'
def rSortDt (K : PySem.W.Frag) : List V → Hp → VK → Prop := fun vs H Q => ∃ (a : Addr) (us : List V) (xs : List PyData) (Z : Hp), vs = [.ref a] ∧ Sub Z H ∧ SqL K H a us ∧ DRs Z xs us ∧ sortOk xs = true ∧
  ∀ ws p, H p = none → DRs Z (srt xs) ws → Q (.ref p) (upd H p (.lst ws))
theorem call_sortD (hb : ModB X) (hu : X.A.units + 65 < cLine) : CallR X (.builtin "sorted") (rSortDt X.K) := by
  intro pins s σ H vs us Q I r h
  obtain ⟨a, ws, xs, Z, rfl, sz, hs, hd, ok, q⟩ := h
  obtain ⟨u, rfl, ru⟩ := vals1 r
  cases ru
  obtain ⟨its, rv, hl, hz⟩ := I.list hs
  unfold sortOk at ok
  rw [Bool.and_eq_true, Bool.and_eq_true, Bool.and_eq_true, List.all_eq_true] at ok
  obtain ⟨⟨⟨o1, o2⟩, o3⟩, o4⟩ := ok
  obtain ⟨z1, z2⟩ := hd.zip
  have e := each_zip I hb sz hd rv
  have len : (xs.zip ws).length = xs.length := by
    have q := congrArg List.length z1
    rw [List.length_map] at q
    exact q
  refine PySem.W.sorted_data (β := PyData × V) (enc := Prod.fst) (bs := xs.zip ws) (R := fun v b => RelV b.2 v) hl.isList (e.mono fun _ _ h => h.1) (e.mono fun _ _ h => h.2) (by rw [z1]; exact allAlike_of o1) (by rw [z1]; exact sortable_of o2)
    (by rw [len]; exact of_decide_eq_true o3) (fun b hb => ?_) fun out ho eo => ?_
  · have m : b.1 ∈ xs := by rw [← z1]; exact List.mem_map.mpr ⟨b, hb, rfl⟩
    have q := o4 _ m
    rw [Bool.and_eq_true, decide_eq_true_eq] at q
    omega
  · obtain ⟨ep, he'⟩ := PyProof.Rows.sortedAll_at s.heap its (List.toArray out)
    have er : ((xs.zip ws).mergeSort (PySem.W.dataLe false Prod.fst)).map Prod.fst = srt xs := by
      unfold srt
      have q := PySem.W.sort_maps (r := PySem.W.dataLe false Prod.fst) (s := PySem.W.dataLe false id) (l := xs.zip ws) Prod.fst (fun _ _ _ _ => rfl)
      rw [z1] at q
      exact q
    have dr : DRs Z (srt xs) (((xs.zip ws).mergeSort (PySem.W.dataLe false Prod.fst)).map Prod.snd) := by
      rw [← er]
      exact DRs.of_pairs fun p hp => z2 p (List.mem_mergeSort.mp hp)
    have hlen : (((xs.zip ws).mergeSort (PySem.W.dataLe false Prod.fst)).map Prod.snd).length ≤ sizeLine := by
      rw [List.length_map, List.length_mergeSort, len]
      exact of_decide_eq_true o3
    exact ⟨.ref _, upd H (s.heap.objs.size + 1) (.lst _), I.laid (t' := s.toks) (fun _ _ => PyProof.Rows.sortedAll_old) (Nat.le_succ _) ⟨hlen, out, ep, vals_each eo, by simpa using he'⟩, rfl, q _ _ (I.hok.fresh (Nat.le_succ _)) dr⟩
end
end Mp
end
section
set_option autoImplicit false
set_option linter.all false
set_option maxRecDepth 100000
set_option maxHeartbeats 4000000
/-! Mp10: sum(xs, []) of a list of lists. -/
namespace Mp
open PySem PySem.Spec PyProof.Rows
section
variable {prog : Program} {w : World} {A : Around} {R : Result → Shared → Prop} {I : Addr} {fp wr : List Addr} {n : Nat} {P : Nat → Value → Prop} {St : Nat → Heap → Prop}
/-- the items of the first i lists -/
def preL (val : Nat → List Value) : Nat → List Value
  | 0 => []
  | i + 1 => preL val i ++ val i
theorem preL_len (val : Nat → List Value) : ∀ {i j : Nat}, i ≤ j → (preL val i).length ≤ (preL val j).length
  | i, 0, h => by rw [Nat.le_zero.mp h]; exact Nat.le_refl _
  | i, j + 1, h => by
    by_cases c : i = j + 1
    · rw [c]; exact Nat.le_refl _
    · exact Nat.le_trans (preL_len val (Nat.le_of_lt_succ (Nat.lt_of_le_of_ne h c))) (by show _ ≤ (preL val j ++ val j).length; rw [List.length_append]; omega)
theorem sum_lists_loop (W : Walks prog w A.in1 I fp wr n P St) (val : Nat → List Value) (s0 : Shared) (S T0 : Addr) (hSf : S ∉ fp) (hS0 : s0.heap.objs.size ≤ S)
    (hval : ∀ i v, P i v → ∃ b c, v = .ref b ∧ b ∉ wr ∧ IsL s0.heap b (val i).toArray c) (hT0 : T0 ∉ wr ∧ ∃ c, IsL s0.heap T0 #[] c) (hfit : (preL val n).length ≤ sizeLine) (hfp : ∀ b ∈ fp, b < s0.heap.objs.size)
    (hR : ∀ T c h' tk, (n = 0 → T = T0) → (0 < n → s0.heap.objs.size ≤ T) → IsL h' T (preL val n).toArray c → (∀ b o, b ∉ wr → s0.heap.get? b = some o → h'.get? b = some o) → R (.ok (.ret (.ref T))) { s0 with heap := h', toks := tk }) :
    ∀ (k i : Nat) (h : Heap) (tk : Nat) (T c c' : Nat), n - i = k → i ≤ n → St i h → IsL h S #[.ref T] c → IsL h T (preL val i).toArray c' → ((i = 0 ∧ T = T0) ∨ (0 < i ∧ s0.heap.objs.size ≤ T ∧ T ≠ S)) →
      (∀ b o, b ∉ wr → s0.heap.get? b = some o → h.get? b = some o) → s0.heap.objs.size ≤ h.objs.size →
      codeAny (model prog w) A (.builtin "sum.loop" ⟨[.ref I, .ref S, rawInt 2, rawInt 0], []⟩) R { s0 with heap := h, toks := tk } := by
  have hSw : S ∉ wr := fun h => hSf (W.sub _ h)
  have wlt : ∀ b ∈ wr, b < s0.heap.objs.size := fun b hb => hfp b (W.sub _ hb)
  intro k
  induction k with
  | zero =>
    intro i h tk T c c' hk hi hst hS hT hTT keep hsz
    have hin : i = n := by omega
    subst hin
    refine codeAny_builtin F.entry_sum_loop ?_
    rw [Around.under_plainId F.plain_sum_loop _]
    show wpAny _ A.in1 (seqItems? (.ref S) >>= _) _ _ _
    refine wpAny_bind (wpAny_seqItems hS rfl ?_)
    show wpAny _ A.in1 (tryCatch (pyNext (.ref I)) _ >>= _) _ _ _
    refine wpAny_bind (wpAny_tryCatch (W.done _ _ _ hst fun h' tk' hk' => ?_))
    have hTw : T ∉ wr := by
      rcases hTT with ⟨_, e⟩ | ⟨_, e, _⟩
      · rw [e]; exact hT0.1
      · exact fun hb => Nat.lt_irrefl _ (Nat.lt_of_le_of_lt e (wlt _ hb))
    refine wpAny_pure (hR T c' h' tk' (fun e => ?_) (fun e => ?_) (hk' _ _ hTw hT) fun b o hb e => hk' b o hb (keep b o hb e))
    · rcases hTT with ⟨_, q⟩ | ⟨q, _⟩
      · exact q
      · omega
    · rcases hTT with ⟨q, _⟩ | ⟨_, q, _⟩
      · omega
      · exact q
  | succ k ih =>
    intro i h tk T c c' hk hi hst hS hT hTT keep hsz
    have hlt : i < n := by omega
    refine codeAny_builtin F.entry_sum_loop ?_
    rw [Around.under_plainId F.plain_sum_loop _]
    show wpAny _ A.in1 (seqItems? (.ref S) >>= _) _ _ _
    refine wpAny_bind (wpAny_seqItems hS rfl ?_)
    show wpAny _ A.in1 (tryCatch (pyNext (.ref I)) _ >>= _) _ _ _
    refine wpAny_bind (wpAny_tryCatch (W.item i _ _ _ hlt hst fun v h' tk' hP hst' hk' => ?_))
    obtain ⟨b, cb, rfl, hbw, hb0⟩ := hval i v hP
    have hTw : T ∉ wr := by
      rcases hTT with ⟨_, e⟩ | ⟨_, e, _⟩
      · rw [e]; exact hT0.1
      · exact fun hb => Nat.lt_irrefl _ (Nat.lt_of_le_of_lt e (wlt _ hb))
    have hS' : IsL h' S #[.ref T] c := hk' S _ hSw hS
    have hT' : IsL h' T (preL val i).toArray c' := hk' T _ hTw hT
    have hb' : IsL h' b (val i).toArray cb := hk' b _ hbw (keep b _ hbw hb0)
    have keep' : ∀ b o, b ∉ wr → s0.heap.get? b = some o → h'.get? b = some o := fun b o hb e => hk' b o hb (keep b o hb e)
    have hSlt : S < h'.objs.size := Heap.lt_size hS'
    have hfit' : (preL val (i + 1)).length ≤ sizeLine := Nat.le_trans (preL_len val hlt) hfit
    show wpAny _ A.in1 ((holding [Value.ref b] (binaryOp .Add (.ref T) (.ref b))).attempt >>= _) _ _ _
    refine wpAny_bind (wpAny_attempt (wpAny_holding ?_))
    refine PySem.P.add_list hT' hb' ?_ (by rw [List.size_toArray, List.size_toArray, ← List.length_append]; exact hfit')
    have hS1 : IsL (h'.push { cls := .type "list", data := .seq ((preL val i).toArray ++ (val i).toArray) }) S #[.ref T] c := Heap.get?_push_of_some _ hS'
    show wpAny _ A.in1 (updateSeq S (fun _ => #[.ref h'.objs.size]) >>= _) _ _ _
    refine wpAny_bind (wpAny_updateSeq hS1 rfl ?_)
    have hS2 := Heap.get?_update_self (Obj.mapSeq fun _ => #[Value.ref h'.objs.size]) hS1 rfl
    refine wpAny_bind (wpAny_letGo ?_)
    have hNS : h'.objs.size ≠ S := Nat.ne_of_gt hSlt
    refine wpAny_bind (wpAny_updateSeq hS2 rfl (wpAny_pure ⟨plainId_quiet F.plain_sum_loop _, ?_⟩))
    refine ih (i + 1) _ _ h'.objs.size _ 0 (by omega) hlt (W.frame _ _ _ hst' fun b hb o e => ?_) (Heap.get?_update_self _ hS2 rfl) ?_ (.inr ⟨Nat.succ_pos _, ?_, hNS⟩) (fun b o hb e => ?_) ?_
    · exact (Heap.get?_update_other _ _ (fun h : S = b => hSf (by rw [h]; exact hb))).trans ((Heap.get?_update_other _ _ (fun h : S = b => hSf (by rw [h]; exact hb))).trans (Heap.get?_push_of_some _ e))
    · have q : IsL (h'.push { cls := .type "list", data := .seq ((preL val i).toArray ++ (val i).toArray) }) h'.objs.size ((preL val i).toArray ++ (val i).toArray) 0 := Heap.get?_push_size _ rfl
      have e : (preL val i).toArray ++ (val i).toArray = (preL val (i + 1)).toArray := by simp [preL]
      rw [← e]
      exact (Heap.get?_update_other _ _ (Ne.symm hNS)).trans ((Heap.get?_update_other _ _ (Ne.symm hNS)).trans q)
    · exact Nat.le_trans hS0 (Nat.le_of_lt hSlt)
    · have hne : S ≠ b := fun q => Nat.lt_irrefl _ (Nat.lt_of_lt_of_le (Heap.lt_size e) (by rw [← q]; exact hS0))
      exact (Heap.get?_update_other _ _ hne).trans ((Heap.get?_update_other _ _ hne).trans (Heap.get?_push_of_some _ (keep' b o hb e)))
    · rw [Heap.size_update, Heap.size_update, Heap.size_push]
      exact Nat.le_succ_of_le (Nat.le_trans hS0 (Nat.le_of_lt hSlt))
theorem args_sum2 (a b : Value) : argsOk "sum" ⟨[a, b], []⟩ := by unfold argsOk; kernel_rfl
theorem call_sum_lists {E : Value → Shared → Prop} {s : Shared} {l T0 : Addr} {its : List Value} {c0 : Nat} (val : Nat → List Value) {Q : Value → Shared → Prop} (hh : A.handled = none) (hl : s.heap.IsList l its.toArray) (h0 : IsL s.heap T0 #[] c0)
    (hval : ∀ i v, its[i]? = some v → ∃ b c, v = .ref b ∧ IsL s.heap b (val i).toArray c) (hfit : (preL val its.length).length ≤ sizeLine)
    (hR : ∀ T c h' tk, (its.length = 0 → T = T0) → (0 < its.length → s.heap.objs.size ≤ T) → IsL h' T (preL val its.length).toArray c → (∀ b o, s.heap.get? b = some o → h'.get? b = some o) → Q (.ref T) { s with heap := h', toks := tk }) :
    wpAny (model prog w) A (call (.builtin "sum") [.ref l, .ref T0]) Q E s := by
  refine call_function_tree F.kind_sum F.plain_sum F.entry_sum (args_sum2 _ _) ?_
  unfold Builtin.«sum»
  simp only [List.length_cons, List.length_nil]
  rw [if_neg (by decide)]
  refine wpAny_bind (wpAny_of_eq (show Builtin.Builtins.bindParams "sum" ["start"] 0 ⟨[.ref T0], []⟩ = pure [some (.ref T0)] from rfl) ?_)
  refine wpAny_bind (wpAny_pyIter_list hl ?_)
  refine wpAny_bind (wpAny_pure ?_)
  simp only [List.forIn_cons, List.forIn_nil]
  have hT : Shared.TypeIs { s with heap := s.heap.push { cls := .type "list_iterator", data := .fields #[.ref l, .int 0 0] } } (.ref T0) "list" := ⟨_, Heap.get?_push_of_some _ h0, rfl⟩
  refine wpAny_bind (wpAny_bind (wpAny_bind (wpAny_isInstance (T := "list") (b := false) hT F.sub_list_str ?_)))
  simp only [Bool.false_eq_true, if_false]
  refine wpAny_pure (wpAny_bind (wpAny_bind (wpAny_isInstance (T := "list") (b := false) hT F.sub_list_bytes ?_)))
  simp only [Bool.false_eq_true, if_false]
  refine wpAny_pure (wpAny_bind (wpAny_bind (wpAny_isInstance (T := "list") (b := false) hT F.sub_list_bytearray ?_)))
  simp only [Bool.false_eq_true, if_false]
  refine wpAny_pure (wpAny_pure ?_)
  refine wpAny_bind (wpAny_newObj_type ?_)
  have llt : l < s.heap.objs.size := by obtain ⟨_, e, _⟩ := hl; exact Heap.lt_size e
  have hsz1 : (s.heap.push { cls := .type "list_iterator", data := .fields #[.ref l, .int 0 0] }).objs.size = s.heap.objs.size + 1 := Heap.size_push ..
  have W := Walks.list (prog := prog) (w := w) (A := A.in1) hh s.heap.objs.size l (Nat.ne_of_lt llt) its.toArray
  have st : ({ s with heap := s.heap.push { cls := .type "list_iterator", data := .fields #[.ref l, .int 0 0] } } : Shared).heap.IsListIter s.heap.objs.size l 0 ∧ ({ s with heap := s.heap.push { cls := .type "list_iterator", data := .fields #[.ref l, .int 0 0] } } : Shared).heap.IsList l its.toArray := ⟨⟨_, Heap.get?_push_size _ rfl, rfl, rfl⟩, hl.push _⟩
  have nw : ∀ {b : Addr} {o : Obj}, s.heap.get? b = some o → b ∉ [s.heap.objs.size] := fun e hb => by
    rw [List.mem_singleton] at hb
    rw [hb] at e
    exact Nat.lt_irrefl _ (Heap.lt_size e)
  refine wpAny_pure ⟨plainId_quiet F.plain_sum_loop _, ?_⟩
  refine sum_lists_loop W val { s with heap := s.heap.push { cls := .type "list_iterator", data := .fields #[.ref l, .int 0 0] } } (s.heap.push { cls := .type "list_iterator", data := .fields #[.ref l, .int 0 0] }).objs.size T0 (fun hb => ?_) (Nat.le_refl _) (fun i v hv => ?_) ⟨nw h0, c0, Heap.get?_push_of_some _ h0⟩
    (by rw [List.size_toArray]; exact hfit) (fun b hb => ?_) (fun T c h' tk e1 e2 e3 e4 => ?_) its.toArray.size 0 _ _ T0 0 c0 (Nat.sub_zero _) (Nat.zero_le _) (W.frame _ _ _ st fun b _ o e => Heap.get?_push_of_some _ e) ?_ (Heap.get?_push_of_some _ (Heap.get?_push_of_some _ h0)) (.inl ⟨rfl, rfl⟩) (fun b o _ e => Heap.get?_push_of_some _ e) ?_
  · rw [hsz1] at hb
    rcases List.mem_cons.mp hb with e | hb
    · exact absurd e (Nat.succ_ne_self _)
    · rw [List.mem_singleton] at hb
      rw [← hb] at llt
      exact absurd llt (Nat.not_lt_of_le (Nat.le_succ _))
  · have hv' : its[i]? = some v := by simpa using hv
    obtain ⟨b, c, rfl, hb⟩ := hval i v hv'
    exact ⟨b, c, rfl, nw hb, Heap.get?_push_of_some _ hb⟩
  · show b < (s.heap.push _).objs.size
    rw [hsz1]
    rcases List.mem_cons.mp hb with e | hb
    · rw [e]; exact Nat.lt_succ_self _
    · rw [List.mem_singleton] at hb; rw [hb]; exact Nat.lt_succ_of_lt llt
  · rw [List.size_toArray] at e1 e2 e3
    refine hR T c h' tk e1 (fun p => ?_) e3 fun b o e => e4 b o (nw e) (Heap.get?_push_of_some _ e)
    have q := e2 p
    rw [hsz1] at q
    exact Nat.le_of_succ_le q
  · exact Heap.get?_push_size _ rfl
  · show (s.heap.push _).objs.size ≤ ((s.heap.push _).push _).objs.size
    rw [Heap.size_push, Heap.size_push, Heap.size_push]
    exact Nat.le_succ _
end
end Mp
end
section
set_option autoImplicit false
set_option linter.all false
set_option maxRecDepth 100000
set_option maxHeartbeats 4000000
/-! Mp11: the built-in functions of one and of two arguments. -/
namespace Mp
open PySem PySem.Spec PyProof.Rows L2
section
variable {K : PySem.W.Frag} {m : List Addr} {Z Z' H H' : Hp} {S S' : Store} {x y z : PyData} {u w : V} {Q : VK}
theorem intsL_ok : ∀ {xs : List PyData} {ns : List Int}, intsL xs S = .ok ns S' → S' = S ∧ xs = ns.map PyData.int
  | [], ns, h => by
    obtain ⟨rfl, rfl⟩ := ret_ok h
    exact ⟨rfl, rfl⟩
  | x :: xs, ns, h => by
    cases x with
    | int i =>
      obtain ⟨r, S1, h1, h2⟩ := bnd_ok h
      obtain ⟨rfl, rfl⟩ := ret_ok h2
      obtain ⟨rfl, rfl⟩ := intsL_ok h1
      exact ⟨rfl, rfl⟩
    | _ => exact nomatch (show (R.no : R (List Int)) = .ok ns S' from h)
theorem DRs.ints : ∀ {ns : List Int} {us : List V}, DRs Z (ns.map PyData.int) us → us = ns.map V.int
  | [], us, h => DRs.nil_iff.mp h
  | n :: ns, us, h => by
    obtain ⟨u, r, rfl, h1, t⟩ := DRs.cons_iff.mp h
    simp only [DR] at h1
    rw [h1, DRs.ints t]
    rfl
theorem DRs.of_ints : ∀ ns : List Int, DRs Z (ns.map PyData.int) (ns.map V.int)
  | [] => DRs.nil
  | n :: ns => DRs.cons (by simp only [DR]) (DRs.of_ints ns)
theorem maxI_spec : ∀ (r : List Int) (m : Int), (maxI m r ∈ m :: r) ∧ ∀ y ∈ m :: r, y ≤ maxI m r
  | [], m => ⟨by simp [maxI], fun y hy => by simp at hy; rw [hy]; exact Int.le_refl _⟩
  | i :: r, m => by
    obtain ⟨h1, h2⟩ := maxI_spec r (if i > m then i else m)
    refine ⟨?_, fun y hy => ?_⟩
    · show maxI (if i > m then i else m) r ∈ _
      rcases List.mem_cons.mp h1 with e | h
      · rw [e]
        split
        · exact List.mem_cons_of_mem _ List.mem_cons_self
        · exact List.mem_cons_self
      · exact List.mem_cons_of_mem _ (List.mem_cons_of_mem _ h)
    · show y ≤ maxI (if i > m then i else m) r
      have q := h2 _ List.mem_cons_self
      have q2 : m ≤ (if i > m then i else m) ∧ i ≤ (if i > m then i else m) := by split <;> omega
      rcases List.mem_cons.mp hy with e | hy
      · rw [e]; omega
      · rcases List.mem_cons.mp hy with e | hy
        · rw [e]; omega
        · exact h2 y (List.mem_cons_of_mem _ hy)
theorem minI_spec : ∀ (r : List Int) (m : Int), (minI m r ∈ m :: r) ∧ ∀ y ∈ m :: r, minI m r ≤ y
  | [], m => ⟨by simp [minI], fun y hy => by simp at hy; rw [hy]; exact Int.le_refl _⟩
  | i :: r, m => by
    obtain ⟨h1, h2⟩ := minI_spec r (if i < m then i else m)
    refine ⟨?_, fun y hy => ?_⟩
    · show minI (if i < m then i else m) r ∈ _
      rcases List.mem_cons.mp h1 with e | h
      · rw [e]
        split
        · exact List.mem_cons_of_mem _ List.mem_cons_self
        · exact List.mem_cons_self
      · exact List.mem_cons_of_mem _ (List.mem_cons_of_mem _ h)
    · show minI (if i < m then i else m) r ≤ y
      have q := h2 _ List.mem_cons_self
      have q2 : (if i < m then i else m) ≤ m ∧ (if i < m then i else m) ≤ i := by split <;> omega
      rcases List.mem_cons.mp hy with e | hy
      · rw [e]; omega
      · rcases List.mem_cons.mp hy with e | hy
        · rw [e]; omega
        · exact h2 y (List.mem_cons_of_mem _ hy)
/-! ### tables -/
theorem DRk.keys : ∀ {kvs : List (PyData × PyData)} {ws : List (Key × V)}, DRk Z kvs ws → DRs Z (kvs.map (·.1)) (ws.map fun kv => kV kv.1)
  | [], ws, h => by simp only [DRk] at h; subst h; exact DRs.nil
  | (k, x) :: r, ws, h => by
    simp only [DRk] at h
    obtain ⟨k', u, t, rfl, hk, _, h2⟩ := h
    refine DRs.cons ?_ (DRk.keys h2)
    cases k with
    | int i => simp [keyK] at hk; subst hk; simp only [DR]; rfl
    | str i => simp [keyK] at hk; subst hk; simp only [DR]; rfl
    | _ => simp [keyK] at hk
theorem DRk.any {k : PyData} {k' : Key} (hk : keyK k = some k') : ∀ {kvs : List (PyData × PyData)} {ws : List (Key × V)}, DRk Z kvs ws → (kvs.any fun p => PyData.eqv p.1 k) = (ws.any fun p => decide (p.1 = k'))
  | [], ws, h => by simp only [DRk] at h; subst h; rfl
  | (j, x) :: r, ws, h => by
    simp only [DRk] at h
    obtain ⟨j', u, t, rfl, hj, _, h2⟩ := h
    rw [List.any_cons, List.any_cons, DRk.any hk h2, keyK_eqv hj hk]
theorem DRk.map {k : PyData} {k' : Key} (hk : keyK k = some k') {v : PyData} {u : V} (hv : DR Z v u) : ∀ {kvs : List (PyData × PyData)} {ws : List (Key × V)}, DRk Z kvs ws →
    DRk Z (kvs.map fun p => if PyData.eqv p.1 k = true then (p.1, v) else p) (ws.map fun p => if p.1 = k' then (p.1, u) else p)
  | [], ws, h => by simp only [DRk] at h; subst h; simp only [DRk, List.map_nil]
  | (j, x) :: r, ws, h => by
    simp only [DRk] at h
    obtain ⟨j', w, t, rfl, hj, hx, h2⟩ := h
    have q := DRk.map hk hv h2
    rw [List.map_cons, List.map_cons]
    have e := keyK_eqv hj hk
    by_cases c : j' = k'
    · rw [if_pos (by rw [e]; exact decide_eq_true c), if_pos c]
      simp only [DRk]
      exact ⟨_, _, _, rfl, hj, hv, q⟩
    · rw [if_neg (by rw [e]; simpa using c), if_neg c]
      simp only [DRk]
      exact ⟨_, _, _, rfl, hj, hx, q⟩
theorem DRk.snoc {k : PyData} {k' : Key} (hk : keyK k = some k') {v : PyData} {u : V} (hv : DR Z v u) : ∀ {kvs : List (PyData × PyData)} {ws : List (Key × V)}, DRk Z kvs ws → DRk Z (kvs ++ [(k, v)]) (ws ++ [(k', u)])
  | [], ws, h => by
    simp only [DRk] at h
    subst h
    simp only [DRk, List.nil_append]
    exact ⟨_, _, _, rfl, hk, hv, rfl⟩
  | (j, x) :: r, ws, h => by
    simp only [DRk] at h
    obtain ⟨j', w, t, rfl, hj, hx, h2⟩ := h
    simp only [DRk, List.cons_append]
    exact ⟨_, _, _, rfl, hj, hx, DRk.snoc hk hv h2⟩
theorem DRk.put {k : PyData} {k' : Key} (hk : keyK k = some k') {v : PyData} {u : V} (hv : DR Z v u) {kvs : List (PyData × PyData)} {ws : List (Key × V)} (h : DRk Z kvs ws) : DRk Z (putD kvs k v) (putK ws k' u) := by
  unfold putD putK
  rw [h.any hk]
  split
  · exact h.map hk hv
  · exact h.snoc hk hv
theorem DRt.any {k : PyData} {k' : List Key} (hk : keyT k = some k') : ∀ {kvs : List (PyData × PyData)} {ws : List (List Key × V)}, DRt Z kvs ws → (kvs.any fun p => PyData.eqv p.1 k) = (ws.any fun p => decide (p.1 = k'))
  | [], ws, h => by simp only [DRt] at h; subst h; rfl
  | (j, x) :: r, ws, h => by
    simp only [DRt] at h
    obtain ⟨j', u, t, rfl, hj, _, h2⟩ := h
    rw [List.any_cons, List.any_cons, DRt.any hk h2, keyT_eqv hj hk]
theorem DRt.map {k : PyData} {k' : List Key} (hk : keyT k = some k') {v : PyData} {u : V} (hv : DR Z v u) : ∀ {kvs : List (PyData × PyData)} {ws : List (List Key × V)}, DRt Z kvs ws →
    DRt Z (kvs.map fun p => if PyData.eqv p.1 k = true then (p.1, v) else p) (ws.map fun p => if p.1 = k' then (p.1, u) else p)
  | [], ws, h => by simp only [DRt] at h; subst h; simp only [DRt, List.map_nil]
  | (j, x) :: r, ws, h => by
    simp only [DRt] at h
    obtain ⟨j', w, t, rfl, hj, hx, h2⟩ := h
    have q := DRt.map hk hv h2
    rw [List.map_cons, List.map_cons]
    have e := keyT_eqv hj hk
    by_cases c : j' = k'
    · rw [if_pos (by rw [e]; exact decide_eq_true c), if_pos c]
      simp only [DRt]
      exact ⟨_, _, _, rfl, hj, hv, q⟩
    · rw [if_neg (by rw [e]; simpa using c), if_neg c]
      simp only [DRt]
      exact ⟨_, _, _, rfl, hj, hx, q⟩
theorem DRt.snoc {k : PyData} {k' : List Key} (hk : keyT k = some k') {v : PyData} {u : V} (hv : DR Z v u) : ∀ {kvs : List (PyData × PyData)} {ws : List (List Key × V)}, DRt Z kvs ws → DRt Z (kvs ++ [(k, v)]) (ws ++ [(k', u)])
  | [], ws, h => by
    simp only [DRt] at h
    subst h
    simp only [DRt, List.nil_append]
    exact ⟨_, _, _, rfl, hk, hv, rfl⟩
  | (j, x) :: r, ws, h => by
    simp only [DRt] at h
    obtain ⟨j', w, t, rfl, hj, hx, h2⟩ := h
    simp only [DRt, List.cons_append]
    exact ⟨_, _, _, rfl, hj, hx, DRt.snoc hk hv h2⟩
theorem DRt.put {k : PyData} {k' : List Key} (hk : keyT k = some k') {v : PyData} {u : V} (hv : DR Z v u) {kvs : List (PyData × PyData)} {ws : List (List Key × V)} (h : DRt Z kvs ws) : DRt Z (putD kvs k v) (putK ws k' u) := by
  unfold putD putK
  rw [h.any hk]
  split
  · exact h.map hk hv
  · exact h.snoc hk hv
/-- dict(xs) of pairs -/
theorem pairs_ok (sz : Sub Z H) : ∀ {xs : List PyData} {us : List V} {acc kvs : List (PyData × PyData)} {ws : List (Key × V)}, pairsD acc xs S = .ok kvs S' → DRs Z xs us → DRk Z acc ws → S' = S ∧
    ∃ (ps : List Addr) (more : List (Key × V)), us = ps.map V.ref ∧ Paired (fun p (kv : Key × V) => SqT K H p [kV kv.1, kv.2]) ps more ∧ DRk Z kvs (mergeK ws more)
  | [], us, acc, kvs, ws, h, d, a => by
    obtain ⟨rfl, rfl⟩ := ret_ok h
    rw [DRs.nil_iff.mp d]
    exact ⟨rfl, [], [], rfl, .nil, a⟩
  | x :: xs, us, acc, kvs, ws, h, d, a => by
    obtain ⟨u, r, rfl, h1, t⟩ := DRs.cons_iff.mp d
    cases x with
    | tuple zs =>
      cases zs with
      | nil => exact nomatch (show (R.no : R (List (PyData × PyData))) = .ok kvs S' from h)
      | cons k zs =>
        cases zs with
        | nil => exact nomatch (show (R.no : R (List (PyData × PyData))) = .ok kvs S' from h)
        | cons v zs =>
          cases zs with
          | cons _ _ => exact nomatch (show (R.no : R (List (PyData × PyData))) = .ok kvs S' from h)
          | nil =>
            obtain ⟨_, S1, g1, g2⟩ := bnd_ok (show bnd (guard (keyAtom k)) (fun _ => pairsD (putD acc k v) xs) S = .ok kvs S' from h)
            obtain ⟨e, e0⟩ := guard_ok g1
            rw [e0] at g2
            simp only [DR] at h1
            obtain ⟨b, us', rfl, hz, hs⟩ := h1
            obtain ⟨ku, r1, rfl, d1, t1⟩ := DRs.cons_iff.mp hs
            obtain ⟨vu, r2, rfl, d2, t2⟩ := DRs.cons_iff.mp t1
            have e2 := DRs.nil_iff.mp t2
            subst e2
            obtain ⟨k', hk, rfl⟩ := keyK_of e d1
            obtain ⟨e4, ps, more, e1, e2, e3⟩ := pairs_ok sz g2 t (DRk.put hk d2 a)
            exact ⟨e4, b :: ps, (k', vu) :: more, by rw [e1]; rfl, .cons (SqT.of (sz.tup hz)) e2, e3⟩
    | _ => exact nomatch (show (R.no : R (List (PyData × PyData))) = .ok kvs S' from h)
end
section
variable {X : Cx}
theorem CallR.or3 {f : Value} {r r' r'' : List V → Hp → VK → Prop} (h : CallR X f r) (h' : CallR X f r') (h'' : CallR X f r'') : CallR X f (fun xs H Q => r xs H Q ∨ r' xs H Q ∨ r'' xs H Q) := CallR.or h (CallR.or h' h'')
def rListU (K : PySem.W.Frag) : List V → Hp → VK → Prop := fun xs H Q => (∃ p ys, xs = [.ref p] ∧ (SqL K H p ys ∨ SqT K H p ys) ∧ ∀ l, H l = none → Q (.ref l) (upd H l (.lst ys))) ∨
  (∃ (a : Addr) (kvs : List (Key × V)), xs = [.ref a] ∧ Rd H a (.dK kvs) ∧ ∀ p, H p = none → Q (.ref p) (upd H p (.lst (kvs.map fun kv => kV kv.1)))) ∨
  ∃ d kvs, xs = [V.ref d] ∧ Rd H d (.dT kvs) ∧ ∀ p bs, H p = none → IsKeys H kvs bs → Q (.ref p) (upd H p (.lst (bs.map V.ref)))
theorem call_listU (hc : X.calm = true) : CallR X (.type "list") (rListU X.K) := CallR.or3 call_list_of (call_listD hc) (call_list_dT hc)
def rStrU : List V → Hp → VK → Prop := fun xs H Q => ∃ i, xs = [.int i] ∧ i.natAbs.log2 < 1920 ∧ Q (.str (toString i)) H
def rTupU (K : PySem.W.Frag) : List V → Hp → VK → Prop := fun xs H Q => ∃ p ys, xs = [.ref p] ∧ ((SqL K H p ys ∧ ∀ l, H l = none → Q (.ref l) (upd H l (.tup ys))) ∨ (SqT K H p ys ∧ Q (.ref p) H))
def rDicU (K : PySem.W.Frag) : List V → Hp → VK → Prop := fun xs H Q => ∃ (a : Addr) (ps : List Addr) (kvs : List (Key × V)), xs = [.ref a] ∧ SqL K H a (ps.map V.ref) ∧ Paired (fun p kv => SqT K H p [kV kv.1, kv.2]) ps kvs ∧
    ∀ p, H p = none → Q (.ref p) (upd H p (.dK (mergeK [] kvs)))
def rIntU : List V → Hp → VK → Prop := fun xs H Q => (∃ i, xs = [.int i] ∧ Q (.int i) H) ∨ ∃ k, xs = [.bl k] ∧ Q (.int (if k then 1 else 0)) H
/-- the function that a name means -/
def b1V : B1 → Value
  | .len => .builtin "len" | .repr => .builtin "repr" | .int => .type "int" | .str => .type "str" | .sorted => .builtin "sorted" | .list => .type "list" | .tuple => .type "tuple" | .dict => .type "dict"
  | .sum => .builtin "sum" | .max => .builtin "max" | .min => .builtin "min" | .sset => .none | .lset => .none | .svals => .none | .bitlen => .none | .neg => .none
def rB1 (K : PySem.W.Frag) : B1 → List V → Hp → VK → Prop
  | .len => rLenU K | .repr => rRepr | .int => rIntU | .str => rStrU | .sorted => rSortDt K | .list => rListU K | .tuple => rTupU K | .dict => rDicU K
  | .sum => rSum K | .max => rMax K | .min => rMin K | _ => fun _ _ _ => False
/-- what the rules want of the context -/
structure CxB (X : Cx) : Prop where
  calm : X.calm = true
  hu : X.A.units + 65 < cLine
  hg : X.A.guards = some []
  hb : ModB X
theorem call_b1 (c : CxB X) : ∀ b : B1, CallR X (b1V b) (rB1 X.K b)
  | .len => CallR.or call_len call_lenD'
  | .repr => call_reprD c.hb c.hg c.hu
  | .int => call_int1
  | .str => call_str_int
  | .sorted => call_sortD c.hb c.hu
  | .list => call_listU c.calm
  | .tuple => call_tuple_of
  | .dict => call_dictP c.calm
  | .sum => cr_sum c.calm
  | .max => cr_max c.calm
  | .min => cr_min c.calm
  | .sset => fun _ _ _ _ _ _ _ _ _ h => h.elim
  | .lset => fun _ _ _ _ _ _ _ _ _ h => h.elim
  | .svals => fun _ _ _ _ _ _ _ _ _ h => h.elim
  | .bitlen => fun _ _ _ _ _ _ _ _ _ h => h.elim
  | .neg => fun _ _ _ _ _ _ _ _ _ h => h.elim
end
end Mp
end
section
set_option autoImplicit false
set_option linter.all false
set_option maxRecDepth 100000
set_option maxHeartbeats 4000000
/-! Mp12: what the built-in functions come to. -/
namespace Mp
open PySem PySem.Spec PyProof.Rows L2
section
variable {K : PySem.W.Frag} {m : List Addr} {Z Z' H H' : Hp} {S S' : Store} {x y z : PyData} {u w : V} {Q : VK}
theorem sort_ok {xs : List PyData} (h : sortD xs S = .ok z S') : S' = S ∧ z = .list (srt xs) ∧ sortOk xs = true := by
  obtain ⟨_, S1, h1, h2⟩ := bnd_ok h
  obtain ⟨e, rfl⟩ := guard_ok h1
  obtain ⟨rfl, rfl⟩ := ret_ok h2
  exact ⟨rfl, rfl, e⟩
theorem DRs.len {xs : List PyData} {us : List V} (h : DRs Z xs us) (k : xs.length ≤ sizeLine) : us.length ≤ sizeLine := by rw [h.length]; exact k
/-- an empty dict with keys of the other kind -/
theorem drt_atoms {kvs : List (PyData × PyData)} {ws : List (List Key × V)} (h : DRt Z kvs ws) (e : (kvs.all fun p => keyAtom p.1) = true) : kvs = [] ∧ ws = [] := by
  cases kvs with
  | nil => simp only [DRt] at h; exact ⟨rfl, h⟩
  | cons p r =>
    have q := drt_kind h p List.mem_cons_self
    rw [List.all_eq_true] at e
    have q2 := e p List.mem_cons_self
    obtain ⟨k, v⟩ := p
    cases k <;> simp [isTup, keyAtom] at q q2
theorem isKeys_nil {bs : List Addr} (h : IsKeys H [] bs) : bs = [] := by cases h; rfl
theorem pairs_same : ∀ {xs : List PyData} {acc kvs : List (PyData × PyData)}, pairsD acc xs S = .ok kvs S' → S' = S
  | [], acc, kvs, h => (ret_ok h).2
  | x :: xs, acc, kvs, h => by
    cases x with
    | tuple zs =>
      cases zs with
      | nil => exact nomatch (show (R.no : R (List (PyData × PyData))) = .ok kvs S' from h)
      | cons k zs =>
        cases zs with
        | nil => exact nomatch (show (R.no : R (List (PyData × PyData))) = .ok kvs S' from h)
        | cons v zs =>
          cases zs with
          | cons _ _ => exact nomatch (show (R.no : R (List (PyData × PyData))) = .ok kvs S' from h)
          | nil =>
            obtain ⟨_, S1, g1, g2⟩ := bnd_ok (show bnd (guard (keyAtom k)) (fun _ => pairsD (putD acc k v) xs) S = .ok kvs S' from h)
            obtain ⟨e, e0⟩ := guard_ok g1
            rw [e0] at g2
            exact pairs_same g2
    | _ => exact nomatch (show (R.no : R (List (PyData × PyData))) = .ok kvs S' from h)
theorem b1_ok {b : B1} (h : b1D b x S = .ok z S') (hs : b ≠ .sset) (hl : b ≠ .lset) (hv : b ≠ .svals) (h3 : b ≠ .bitlen) (h4 : b ≠ .neg) :
    S' = S ∧ ∀ {m Z H u Q}, Rel m Z S H → PR Z H x u → RQ m Z H S z Q → rB1 K b [u] H Q := by
  cases b with
  | len => exact len_ok h
  | repr =>
    obtain ⟨_, S1, h1, h2⟩ := bnd_ok (show bnd (guard (x.showable && decide (x.shown.length + 64 ≤ sizeLine) && decide (x.depth ≤ 60))) (fun _ => ret (.str x.shown)) S = .ok z S' from h)
    obtain ⟨e, rfl⟩ := guard_ok h1
    obtain ⟨rfl, rfl⟩ := ret_ok h2
    rw [Bool.and_eq_true, Bool.and_eq_true, decide_eq_true_eq, decide_eq_true_eq] at e
    exact ⟨rfl, fun {m Z H u Q} r a q => ⟨u, x, Z, rfl, r.sub, a, e.1.1, by omega, e.2, RQ.str r q⟩⟩
  | int =>
    cases x with
    | int i =>
      obtain ⟨rfl, rfl⟩ := ret_ok (show ret (PyData.int i) S = .ok z S' from h)
      exact ⟨rfl, fun {m Z H u Q} r a q => .inl ⟨i, by rw [PR.int_iff.mp a], RQ.int r q⟩⟩
    | bool i =>
      obtain ⟨rfl, rfl⟩ := ret_ok (show ret (PyData.int (if i then 1 else 0)) S = .ok z S' from h)
      exact ⟨rfl, fun {m Z H u Q} r a q => .inr ⟨i, by rw [PR.bool_iff.mp a], RQ.int r q⟩⟩
    | _ => exact nomatch (show (R.no : R PyData) = .ok z S' from h)
  | str =>
    cases x with
    | int i =>
      obtain ⟨_, S1, h1, h2⟩ := bnd_ok (show bnd (guard (decide (i.natAbs.log2 < 1920))) (fun _ => ret (PyData.str (toString i))) S = .ok z S' from h)
      obtain ⟨e, rfl⟩ := guard_ok h1
      obtain ⟨rfl, rfl⟩ := ret_ok h2
      exact ⟨rfl, fun {m Z H u Q} r a q => ⟨i, by rw [PR.int_iff.mp a], of_decide_eq_true e, RQ.str r q⟩⟩
    | _ => exact nomatch (show (R.no : R PyData) = .ok z S' from h)
  | sorted =>
    cases x with
    | list xs =>
      obtain ⟨rfl, rfl, ok⟩ := sort_ok (show sortD xs S = .ok z S' from h)
      refine ⟨rfl, fun {m Z H u Q} r a q => ?_⟩
      obtain ⟨p, us, rfl, h1, h2⟩ := a
      exact ⟨p, us, xs, Z, rfl, r.sub, SqL.of h1, h2, ok, fun ws p hp d => RQ.lst r q d hp⟩
    | _ => exact nomatch (show (R.no : R PyData) = .ok z S' from h)
  | list =>
    cases x with
    | list xs =>
      obtain ⟨rfl, rfl⟩ := ret_ok (show ret (PyData.list xs) S = .ok z S' from h)
      refine ⟨rfl, fun {m Z H u Q} r a q => .inl ?_⟩
      obtain ⟨p, us, rfl, h1, h2⟩ := a
      exact ⟨p, us, rfl, .inl (SqL.of h1), fun p hp => RQ.lst r q h2 hp⟩
    | tuple xs =>
      obtain ⟨rfl, rfl⟩ := ret_ok (show ret (PyData.list xs) S = .ok z S' from h)
      refine ⟨rfl, fun {m Z H u Q} r a q => .inl ?_⟩
      obtain ⟨p, us, rfl, h1, h2⟩ := PR.tup_iff.mp a
      exact ⟨p, us, rfl, .inr (SqT.of (r.sub.tup h1)), fun p hp => RQ.lst r q h2 hp⟩
    | dict kvs =>
      obtain ⟨_, S1, h1, h2⟩ := bnd_ok (show bnd (guard (kvs.all fun p => keyAtom p.1)) (fun _ => ret (PyData.list (kvs.map (·.1)))) S = .ok z S' from h)
      obtain ⟨e, rfl⟩ := guard_ok h1
      obtain ⟨rfl, rfl⟩ := ret_ok h2
      refine ⟨rfl, fun {m Z H u Q} r a q => .inr ?_⟩
      obtain ⟨p, rfl, ⟨ws, g1, g2⟩ | ⟨ws, g1, g2⟩⟩ := a
      · exact .inl ⟨p, ws, rfl, g1.rd, fun p' hp => RQ.lst r q g2.keys hp⟩
      · refine .inr ⟨p, ws, rfl, g1.rd, fun p' bs hp hb => ?_⟩
        obtain ⟨rfl, rfl⟩ := drt_atoms g2 e
        rw [isKeys_nil hb]
        exact RQ.lst r q DRs.nil hp
    | _ => exact nomatch (show (R.no : R PyData) = .ok z S' from h)
  | tuple =>
    cases x with
    | list xs =>
      obtain ⟨rfl, rfl⟩ := ret_ok (show ret (PyData.tuple xs) S = .ok z S' from h)
      refine ⟨rfl, fun {m Z H u Q} r a q => ?_⟩
      obtain ⟨p, us, rfl, h1, h2⟩ := a
      exact ⟨p, us, rfl, .inl ⟨SqL.of h1, fun p hp => RQ.tup r q h2 hp⟩⟩
    | tuple xs =>
      obtain ⟨rfl, rfl⟩ := ret_ok (show ret (PyData.tuple xs) S = .ok z S' from h)
      refine ⟨rfl, fun {m Z H u Q} r a q => ?_⟩
      have a' := a
      obtain ⟨p, us, rfl, h1, h2⟩ := PR.tup_iff.mp a
      exact ⟨p, us, rfl, .inr ⟨SqT.of (r.sub.tup h1), RQ.here r q a'⟩⟩
    | _ => exact nomatch (show (R.no : R PyData) = .ok z S' from h)
  | dict =>
    cases x with
    | list xs =>
      obtain ⟨_, S1, h1, h2⟩ := bnd_ok (show bnd (guard (fitL xs)) (fun _ => bnd (pairsD [] xs) fun kvs => ret (PyData.dict kvs)) S = .ok z S' from h)
      obtain ⟨e, rfl⟩ := guard_ok h1
      obtain ⟨kvs, S2, h3, h4⟩ := bnd_ok h2
      obtain ⟨rfl, rfl⟩ := ret_ok h4
      have es : S' = S1 := pairs_same h3
      subst es
      refine ⟨rfl, fun {m Z H u Q} r a q => ?_⟩
      obtain ⟨p, us, rfl, g1, g2⟩ := a
      obtain ⟨_, ps, more, e1, e2, e3⟩ := pairs_ok (K := K) (H := H) r.sub h3 g2 (ws := []) (by simp only [DRk])
      refine ⟨p, ps, more, rfl, by rw [← e1]; exact SqL.of g1, e2, fun p' hp => ?_⟩
      obtain ⟨r', n'⟩ := r.newZ (o := .dK (mergeK [] more)) hp
      refine q _ _ _ n' r' ?_
      simp only [DR]
      exact ⟨p', rfl, .inl ⟨_, upd_same, DRk.le n'.zle _ _ e3⟩⟩
    | _ => exact nomatch (show (R.no : R PyData) = .ok z S' from h)
  | sum =>
    cases x with
    | list xs =>
      obtain ⟨ns, S1, h1, h2⟩ := bnd_ok (show bnd (intsL xs) (fun ns => ret (PyData.int ns.sum)) S = .ok z S' from h)
      obtain ⟨rfl, rfl⟩ := intsL_ok h1
      obtain ⟨rfl, rfl⟩ := ret_ok h2
      refine ⟨rfl, fun {m Z H u Q} r a q => ?_⟩
      obtain ⟨p, us, rfl, g1, g2⟩ := a
      rw [DRs.ints g2] at g1
      exact ⟨p, ns, rfl, SqL.of g1, RQ.int r q⟩
    | _ => exact nomatch (show (R.no : R PyData) = .ok z S' from h)
  | max =>
    cases x with
    | list xs =>
      obtain ⟨ns, S1, h1, h2⟩ := bnd_ok (show bnd (intsL xs) (fun ns => match ns with
        | i :: r => ret (PyData.int (maxI i r))
        | [] => no) S = .ok z S' from h)
      obtain ⟨rfl, rfl⟩ := intsL_ok h1
      cases ns with
      | nil => exact nomatch (show (R.no : R PyData) = .ok z S' from h2)
      | cons i t =>
        obtain ⟨rfl, rfl⟩ := ret_ok h2
        refine ⟨rfl, fun {m Z H u Q} r a q => ?_⟩
        obtain ⟨p, us, rfl, g1, g2⟩ := a
        rw [DRs.ints g2] at g1
        refine ⟨p, i :: t, rfl, SqL.of g1, Nat.succ_pos _, fun n hn hm => ?_⟩
        obtain ⟨k1, k2⟩ := maxI_spec t i
        have e : n = maxI i t := Int.le_antisymm (k2 n hn) (hm _ k1)
        rw [e]
        exact RQ.int r q
    | _ => exact nomatch (show (R.no : R PyData) = .ok z S' from h)
  | min =>
    cases x with
    | list xs =>
      obtain ⟨ns, S1, h1, h2⟩ := bnd_ok (show bnd (intsL xs) (fun ns => match ns with
        | i :: r => ret (PyData.int (minI i r))
        | [] => no) S = .ok z S' from h)
      obtain ⟨rfl, rfl⟩ := intsL_ok h1
      cases ns with
      | nil => exact nomatch (show (R.no : R PyData) = .ok z S' from h2)
      | cons i t =>
        obtain ⟨rfl, rfl⟩ := ret_ok h2
        refine ⟨rfl, fun {m Z H u Q} r a q => ?_⟩
        obtain ⟨p, us, rfl, g1, g2⟩ := a
        rw [DRs.ints g2] at g1
        refine ⟨p, i :: t, rfl, SqL.of g1, Nat.succ_pos _, fun n hn hm => ?_⟩
        obtain ⟨k1, k2⟩ := minI_spec t i
        have e : n = minI i t := Int.le_antisymm (hm _ k1) (k2 n hn)
        rw [e]
        exact RQ.int r q
    | _ => exact nomatch (show (R.no : R PyData) = .ok z S' from h)
  | sset => exact absurd rfl hs
  | lset => exact absurd rfl hl
  | svals => exact absurd rfl hv
  | bitlen => exact absurd rfl h3
  | neg => exact absurd rfl h4
end
end Mp
end
section
set_option autoImplicit false
set_option linter.all false
set_option maxRecDepth 100000
set_option maxHeartbeats 4000000
/-! Mp13: functions of two arguments; methods; o[i] = v. -/
namespace Mp
open PySem PySem.Spec PyProof.Rows L2
section
variable {X : Cx}
/-! ### sum(xs, []) -/
def rSumL (K : PySem.W.Frag) : List V → Hp → VK → Prop := fun xs H Q => ∃ (l T0 : Addr) (us : List V) (wss : List (List V)), xs = [.ref l, .ref T0] ∧ SqL K H l us ∧ H T0 = some (.lst []) ∧
  Paired (fun u ws => ∃ a, u = V.ref a ∧ H a = some (.lst ws)) us wss ∧ wss.flatten.length ≤ sizeLine ∧ (us = [] → Q (.ref T0) H) ∧ (us ≠ [] → ∀ p, H p = none → Q (.ref p) (upd H p (.lst wss.flatten)))
theorem preL_flat {wss : List (List Value)} : ∀ n, n ≤ wss.length → preL (fun i => wss.getD i []) n = (wss.take n).flatten
  | 0, _ => by simp [preL]
  | n + 1, h => by
    have hlt : n < wss.length := h
    rw [preL, preL_flat n (Nat.le_of_lt hlt), List.take_succ, List.getD_eq_getElem?_getD, List.getElem?_eq_getElem hlt, List.flatten_append]
    simp
theorem Vals.flatten : ∀ {wss : List (List V)} {uss : List (List Value)}, Paired Vals wss uss → Vals wss.flatten uss.flatten
  | _, _, .nil => .nil
  | _, _, .cons r t => by
    rw [List.flatten_cons, List.flatten_cons]
    exact L2.Vals.append r (Vals.flatten t)
theorem call_sumL (hc : X.calm = true) : CallR X (.builtin "sum") (rSumL X.K) := by
  intro pins s σ H xs vs Q I r h
  obtain ⟨l, T0, us, wss, rfl, hl, hT, hp, hz, q0, q1⟩ := h
  obtain ⟨u1, u2, rfl, r1, r2⟩ := vals2 r
  cases r1
  cases r2
  obtain ⟨its, rv, pl, _⟩ := I.list hl
  have key : ∀ {us : List V} {wss : List (List V)} {its : List Value}, Paired (fun u ws => ∃ a, u = V.ref a ∧ H a = some (.lst ws)) us wss → Vals us its →
      ∃ uss : List (List Value), Paired Vals wss uss ∧ uss.length = its.length ∧ ∀ i v, its[i]? = some v → ∃ b c, v = .ref b ∧ IsL s.heap b (uss.getD i []).toArray c := by
    intro us wss its hp
    induction hp generalizing its with
    | nil =>
      intro rv
      cases rv
      exact ⟨[], .nil, rfl, fun i v e => by simp at e⟩
    | cons h t ih =>
      intro rv
      cases rv with
      | cons a b =>
        obtain ⟨p, rfl, hH⟩ := h
        cases a
        obtain ⟨uss, e1, e2, e3⟩ := ih b
        obtain ⟨_, ws, n, wv, _, e⟩ := I.lstM hH
        refine ⟨ws :: uss, .cons wv e1, by rw [List.length_cons, List.length_cons, e2], fun i v hv => ?_⟩
        cases i with
        | zero =>
          simp at hv
          subst hv
          exact ⟨p, n, rfl, e⟩
        | succ i => exact e3 i v (by simpa using hv)
  obtain ⟨uss, k1, k2, k3⟩ := key hp rv
  have fl := Vals.flatten k1
  have hpre : preL (fun i => uss.getD i []) its.length = uss.flatten := by
    rw [← k2, preL_flat _ (Nat.le_refl _), List.take_length]
  obtain ⟨_, ts, n0, tv, _, te⟩ := I.lstM hT
  cases tv
  refine call_sum_lists (fun i => uss.getD i []) (I.ok.hd hc) pl.isList te k3 (by rw [hpre, ← fl.length]; exact hz) fun T c h' tk e1 e2 e3 e4 => ?_
  by_cases c0 : us = []
  · subst c0
    cases rv
    have eT := e1 rfl
    subst eT
    exact ⟨.ref T, H, I.kept e4, rfl, q0 rfl⟩
  · have pos : 0 < its.length := by
      rw [← rv.length]
      exact List.length_pos_iff.mpr c0
    rw [hpre] at e3
    exact ⟨.ref T, upd H T (.lst wss.flatten), I.laid (t' := tk) e4 (e2 pos) ⟨hz, uss.flatten, c, fl, e3⟩, rfl, q1 c0 T (I.hok.fresh (e2 pos))⟩
def b2V : B2 → Value
  | .max => .builtin "max" | .min => .builtin "min" | .sum => .builtin "sum"
def rB2 (K : PySem.W.Frag) : B2 → List V → Hp → VK → Prop
  | .max => fun xs H Q => ∃ i j, xs = [.int i, .int j] ∧ Q (.int (if j > i then j else i)) H
  | .min => fun xs H Q => ∃ i j, xs = [.int i, .int j] ∧ Q (.int (if j < i then j else i)) H
  | .sum => rSumL K
theorem call_b2 (c : CxB X) : ∀ b : B2, CallR X (b2V b) (rB2 X.K b)
  | .max => call_max2 c.calm
  | .min => call_min2 c.calm
  | .sum => call_sumL c.calm
end
section
variable {K : PySem.W.Frag} {m : List Addr} {Z Z' H H' : Hp} {S S' : Store} {x y z : PyData} {u w : V} {Q : VK}
theorem catL_ok : ∀ {xs ys : List PyData}, catL xs S = .ok ys S' → S' = S ∧ ∃ xss : List (List PyData), xs = xss.map PyData.list ∧ ys = xss.flatten
  | [], ys, h => by
    obtain ⟨rfl, rfl⟩ := ret_ok h
    exact ⟨rfl, [], rfl, rfl⟩
  | x :: xs, ys, h => by
    cases x with
    | list zs =>
      obtain ⟨r, S1, h1, h2⟩ := bnd_ok (show bnd (catL xs) (fun r => ret (zs ++ r)) S = .ok ys S' from h)
      obtain ⟨rfl, rfl⟩ := ret_ok h2
      obtain ⟨rfl, xss, rfl, rfl⟩ := catL_ok h1
      exact ⟨rfl, zs :: xss, rfl, rfl⟩
    | _ => exact nomatch (show (R.no : R (List PyData)) = .ok ys S' from h)
theorem DRs.lists (s : Sub Z H) : ∀ {xss : List (List PyData)} {us : List V}, DRs Z (xss.map PyData.list) us → ∃ wss : List (List V), Paired (fun u ws => ∃ a, u = V.ref a ∧ H a = some (.lst ws)) us wss ∧ DRs Z xss.flatten wss.flatten
  | [], us, h => by
    rw [DRs.nil_iff.mp h]
    exact ⟨[], .nil, DRs.nil⟩
  | xs :: xss, us, h => by
    obtain ⟨u, r, rfl, h1, t⟩ := DRs.cons_iff.mp h
    simp only [DR] at h1
    obtain ⟨a, ws, rfl, hz, hs⟩ := h1
    obtain ⟨wss, p, d⟩ := DRs.lists s t
    exact ⟨ws :: wss, .cons ⟨a, rfl, s.lst hz⟩ p, by rw [List.flatten_cons, List.flatten_cons]; exact DRs.append hs d⟩
/-- the second is data by now -/
theorem b2_ok {b : B2} (h : b2D b x y S = .ok z S') : S' = S ∧ ∀ {m Z H u w Q}, Rel m Z S H → PR Z H x u → DR Z y w → RQ m Z H S z Q → rB2 K b [u, w] H Q := by
  cases b with
  | max =>
    cases x with
    | int i =>
      cases y with
      | int j =>
        obtain ⟨rfl, rfl⟩ := ret_ok (show ret (PyData.int (if j > i then j else i)) S = .ok z S' from h)
        refine ⟨rfl, fun {m Z H u w Q} r a c q => ?_⟩
        rw [PR.int_iff] at a
        simp only [DR] at c
        exact ⟨i, j, by rw [a, c], RQ.int r q⟩
      | _ => exact nomatch (show (R.no : R PyData) = .ok z S' from h)
    | _ => exact nomatch (show (R.no : R PyData) = .ok z S' from h)
  | min =>
    cases x with
    | int i =>
      cases y with
      | int j =>
        obtain ⟨rfl, rfl⟩ := ret_ok (show ret (PyData.int (if j < i then j else i)) S = .ok z S' from h)
        refine ⟨rfl, fun {m Z H u w Q} r a c q => ?_⟩
        rw [PR.int_iff] at a
        simp only [DR] at c
        exact ⟨i, j, by rw [a, c], RQ.int r q⟩
      | _ => exact nomatch (show (R.no : R PyData) = .ok z S' from h)
    | _ => exact nomatch (show (R.no : R PyData) = .ok z S' from h)
  | sum =>
    cases x with
    | list xs =>
      cases y with
      | list ys =>
        cases ys with
        | nil =>
          obtain ⟨zs, S1, h1, h2⟩ := bnd_ok (show bnd (catL xs) mkL S = .ok z S' from h)
          obtain ⟨rfl, xss, rfl, rfl⟩ := catL_ok h1
          obtain ⟨rfl, rfl, hz⟩ := mkL_ok h2
          refine ⟨rfl, fun {m Z H u w Q} r a c q => ?_⟩
          obtain ⟨p, us, rfl, g1, g2⟩ := a
          have c' := c
          simp only [DR] at c
          obtain ⟨T0, us0, rfl, k1, k2⟩ := c
          rw [DRs.nil_iff.mp k2] at k1
          obtain ⟨wss, e1, e2⟩ := DRs.lists r.sub g2
          refine ⟨p, T0, us, wss, rfl, SqL.of g1, r.sub.lst k1, e1, by rw [e2.length]; exact hz, fun e => ?_, fun _ p' hp => RQ.lst r q e2 hp⟩
          subst e
          have e3 : xss = [] := by
            have := g2.length
            simp at this
            exact List.eq_nil_of_length_eq_zero this.symm
          subst e3
          exact RQ.here r q c'
        | cons _ _ => exact nomatch (show (R.no : R PyData) = .ok z S' from h)
      | _ => exact nomatch (show (R.no : R PyData) = .ok z S' from h)
    | _ => exact nomatch (show (R.no : R PyData) = .ok z S' from h)
end
end Mp
end
section
set_option autoImplicit false
set_option linter.all false
set_option maxRecDepth 100000
set_option maxHeartbeats 4000000
/-! Mp14: methods; o[i] = v. -/
namespace Mp
open PySem PySem.Spec PyProof.Rows L2
section
variable {X : Cx}
/-! ### d.get -/
def rGetD : V → List V → Hp → VK → Prop := fun x xs H Q => ∃ (a : Addr) (y : V), x = V.ref a ∧ xs = [y] ∧ ((∃ o, DGet H a y o ∧ Q (o.getD .non) H) ∨ (WrongE H a y ∧ Q .non H))
theorem mt_getD (hu : X.A.units + 65 < cLine) : MtR X "dict.get" rGetD := by
  intro pins s σ H x xs v us Q I rx rs h
  obtain ⟨a, y, rfl, rfl, h⟩ := h
  cases rx
  obtain ⟨u, rfl, ru⟩ := vals1 rs
  rcases h with ⟨o, g, q⟩ | ⟨w, q⟩
  · exact d_get1 (by omega) I g ru fun w' s' I' r' => ⟨_, H, I', r', q⟩
  · exact wrong_do I w .non q fun H1 Q1 I1 g k => d_get1 (by omega) I1 g ru fun w' s' I' r' => k w' s' I' r'
def rGetD2 : V → List V → Hp → VK → Prop := fun x xs H Q => ∃ (a : Addr) (y d : V), x = V.ref a ∧ xs = [y, d] ∧ ((∃ o, DGet H a y o ∧ Q (o.getD d) H) ∨ (WrongE H a y ∧ Q d H))
theorem mt_getD2 (hu : X.A.units + 65 < cLine) : MtR X "dict.get" rGetD2 := by
  intro pins s σ H x xs v us Q I rx rs h
  obtain ⟨a, y, d, rfl, rfl, h⟩ := h
  cases rx
  obtain ⟨u, u2, rfl, ru, ru2⟩ := vals2 rs
  rcases h with ⟨o, g, q⟩ | ⟨w, q⟩
  · exact d_get2 (by omega) I g ru ru2 fun w' s' I' r' => ⟨_, H, I', r', q⟩
  · exact wrong_do I w d q fun H1 Q1 I1 g k => d_get2 (by omega) I1 g ru ru2 fun w' s' I' r' => k w' s' I' r'
def rJoin (K : PySem.W.Frag) : V → List V → Hp → VK → Prop := fun x xs H Q => ∃ a p, ∃ ys : List Str, x = .str a ∧ xs = [.ref p] ∧ (SqL K H p (ys.map V.str) ∨ SqT K H p (ys.map V.str)) ∧
    (ys.map (·.length)).sum + ys.length * a.length ≤ 16777216 ∧ Q (.str (Txt.join a ys)) H
def rS2 (g : Str → Str → V) : V → List V → Hp → VK → Prop := fun x xs H Q => ∃ a b, x = .str a ∧ xs = [.str b] ∧ Q (g a b) H
def m1T : M1 → String
  | .append => "list" | .pop => "list" | .extend => "list" | .index => "list" | .join => "str" | .find => "str" | .count => "str" | .split => "str" | .get => "dict"
def m1I : M1 → String
  | .append => "list.append" | .pop => "list.pop" | .extend => "list.extend" | .index => "list.index" | .join => "str.join" | .find => "str.find" | .count => "str.count" | .split => "str.split" | .get => "dict.get"
def rM1 (K : PySem.W.Frag) : M1 → V → List V → Hp → VK → Prop
  | .append => rAppend | .pop => rPopAt | .extend => rExtend | .index => rIndexD K | .join => rJoin K | .find => rS2 fun a b => .int (Txt.find a b) | .count => rS2 fun a b => .int (Txt.count a b)
  | .split => fun _ _ _ _ => False | .get => rGetD
theorem mt_m1 (hu : X.A.units + 65 < cLine) : ∀ m : M1, MtR X (m1I m) (rM1 X.K m)
  | .append => mt_append
  | .pop => mt_popAt
  | .extend => mt_extend
  | .index => mt_indexD hu
  | .join => mt_join
  | .find => mt_find
  | .count => mt_count
  | .split => fun _ _ _ _ _ _ _ _ _ _ _ _ h => h.elim
  | .get => mt_getD hu
/-- the dict's objects -/
def rSetDU : TSet := fun o i v H Q => ∃ a, o = .ref a ∧ ((∃ H', DPut H a i v H' ∧ Q H') ∨ (∃ (b : Addr) (k : List Key), H a = some (.dK []) ∧ i = .ref b ∧ H b = some (.tup (k.map kV)) ∧ Q (upd H a (.dT [(k, v)]))) ∨
  ∃ k : Key, H a = some (.dT []) ∧ i = kV k ∧ Q (upd H a (.dK [(k, v)])))
theorem set_dictU (hu : X.A.units + 65 < cLine) : PSet X rSetDU := by
  intro pins s σ H o i v ov iv u Q I ro ri rv h
  obtain ⟨a, rfl, h⟩ := h
  cases ro
  rcases h with ⟨H', g, q⟩ | ⟨b, k, h1, rfl, h2, q⟩ | ⟨k, h1, rfl, q⟩
  · exact d_setItem (by omega) I g ri rv fun s' I' => ⟨H', I', q⟩
  · have I' := Inv.asT I h1
    have hne : b ≠ a := fun e => by rw [e, h1] at h2; cases h2
    have g : DPut (upd H a (.dT [])) a (.ref b) v (upd (upd H a (.dT [])) a (.dT (putK [] k v))) := DPut.t upd_same (by rw [upd_ne hne]; exact h2) (by show (0 : Nat) < sizeLine; rw [sizeLine_eq]; decide)
    exact d_setItem (by omega) I' g ri rv fun s' I2 => ⟨_, I2, by rw [upd_upd]; exact q⟩
  · have I' := Inv.asK I h1
    have g : DPut (upd H a (.dK [])) a (kV k) v (upd (upd H a (.dK [])) a (.dK (putK [] k v))) := DPut.k upd_same (by show (0 : Nat) < sizeLine; rw [sizeLine_eq]; decide)
    exact d_setItem (by omega) I' g ri rv fun s' I2 => ⟨_, I2, by rw [upd_upd]; exact q⟩
def rSetU : TSet := fun o i v H Q => rSetL o i v H Q ∨ rSetDU o i v H Q
theorem set_u (hu : X.A.units + 65 < cLine) : PSet X rSetU := by
  intro pins s σ H o i v ov iv u Q I ro ri rv h
  rcases h with h | h
  · exact set_list pins s σ H o i v ov iv u Q I ro ri rv h
  · exact set_dictU hu pins s σ H o i v ov iv u Q I ro ri rv h
end
section
variable {K : PySem.W.Frag} {m : List Addr} {Z Z' H H' : Hp} {S S' : Store} {x y z : PyData} {u w : V} {Q : VK}
/-- what is wanted behind a method that may change its cell -/
def MQ (m : List Addr) (Z H : Hp) (S : Store) (x : PyData) (Q : VK) : Prop := ∀ u Z' H', Nxt m Z H m Z' H' → Rel m Z' S H' → DR Z' x u → Q u H'
theorem ixN_seqI {n : Nat} {j : Int} {k : Nat} (h : ixN n j = some k) : seqIndex? j n = some k := (ixN_seq h).1
theorem strsOf_ok : ∀ {xs : List PyData} {ys : List Str}, strsOf xs S = .ok ys S' → S' = S ∧ xs = ys.map PyData.str
  | [], ys, h => by
    obtain ⟨rfl, rfl⟩ := ret_ok h
    exact ⟨rfl, rfl⟩
  | x :: xs, ys, h => by
    cases x with
    | str i =>
      obtain ⟨r, S1, h1, h2⟩ := bnd_ok (show bnd (strsOf xs) (fun ys => ret (i :: ys)) S = .ok ys S' from h)
      obtain ⟨rfl, rfl⟩ := ret_ok h2
      obtain ⟨rfl, rfl⟩ := strsOf_ok h1
      exact ⟨rfl, rfl⟩
    | _ => exact nomatch (show (R.no : R (List Str)) = .ok ys S' from h)
theorem DRs.strs : ∀ {ns : List Str} {us : List V}, DRs Z (ns.map PyData.str) us → us = ns.map V.str
  | [], us, h => DRs.nil_iff.mp h
  | n :: ns, us, h => by
    obtain ⟨u, r, rfl, h1, t⟩ := DRs.cons_iff.mp h
    simp only [DR] at h1
    rw [h1, DRs.strs t]
    rfl
theorem sum_len (a : Str) : ∀ ys : List Str, (ys.map fun y => y.length + a.length).sum = (ys.map (·.length)).sum + ys.length * a.length
  | [] => by simp
  | y :: ys => by
    rw [List.map_cons, List.sum_cons, sum_len a ys, List.map_cons, List.sum_cons, List.length_cons, Nat.succ_mul]
    omega
theorem findIdx_spec {xs : List PyData} {p : PyData → Bool} {j : Nat} (h : xs.findIdx? p = some j) : (∃ z, xs[j]? = some z ∧ p z = true) ∧ ∀ (i : Nat) (z : PyData), i < j → xs[i]? = some z → p z = false := by
  obtain ⟨h1, h2, h3⟩ := List.findIdx?_eq_some_iff_getElem.mp h
  refine ⟨⟨xs[j], List.getElem?_eq_getElem h1, h2⟩, fun i z hi hz => ?_⟩
  obtain ⟨k, rfl⟩ := List.getElem?_eq_some_iff.mp hz
  have q := h3 i hi
  simpa using q
theorem m1D_ok {k : M1} (h : m1D k x y S = .ok z S') : S' = S ∧ ∀ {m Z H u w Q}, Rel m Z S H → PR Z H x u → DR Z y w → RQ m Z H S z Q → rM1 K k u [w] H Q := by
  cases k with
  | index =>
    cases x with
    | list xs =>
      obtain ⟨_, S1, h1, h2⟩ := bnd_ok (show bnd (guard (SeqAt.shaped y && SeqAt.shaped (.list xs))) (fun _ => bnd (ofO (idxD xs y)) fun j => ret (PyData.int j)) S = .ok z S' from h)
      obtain ⟨e, rfl⟩ := guard_ok h1
      obtain ⟨j, S2, h3, h4⟩ := bnd_ok h2
      obtain ⟨e2, rfl⟩ := ofO_ok h3
      obtain ⟨rfl, rfl⟩ := ret_ok h4
      rw [Bool.and_eq_true] at e
      refine ⟨rfl, fun {m Z H u w Q} r a c q => ?_⟩
      have d1 := PR.dp (K := K) r.sub (shaped_can e.2) a
      have d2 := DR.dp (K := K) r.sub y w (shaped_can e.1) c
      obtain ⟨p, us, rfl, g1, g2⟩ := a
      obtain ⟨⟨z0, f1, f2⟩, f3⟩ := findIdx_spec e2
      exact ⟨p, w, y, xs, j, z0, rfl, rfl, d1, d2, e.2, e.1, f1, f2, f3, RQ.int r q⟩
    | _ => exact nomatch (show (R.no : R PyData) = .ok z S' from h)
  | join =>
    cases x with
    | str a =>
      cases y with
      | list xs =>
        obtain ⟨ys, S1, h1, h2⟩ := bnd_ok (show bnd (strsOf xs) (fun ys => bnd (guard (decide ((ys.map fun y => y.length + a.length).sum + 64 ≤ sizeLine))) fun _ => ret (PyData.str (Txt.join a ys))) S = .ok z S' from h)
        obtain ⟨rfl, rfl⟩ := strsOf_ok h1
        obtain ⟨_, S2, h3, h4⟩ := bnd_ok h2
        obtain ⟨e, rfl⟩ := guard_ok h3
        obtain ⟨rfl, rfl⟩ := ret_ok h4
        refine ⟨rfl, fun {m Z H u w Q} r b c q => ?_⟩
        rw [PR.str_iff] at b
        subst b
        simp only [DR] at c
        obtain ⟨p, us, rfl, g1, g2⟩ := c
        rw [DRs.strs g2] at g1
        have e := of_decide_eq_true e
        rw [sum_len, sizeLine_eq] at e
        exact ⟨a, p, ys, rfl, rfl, .inl (SqL.of (r.sub.lst g1)), by omega, RQ.str r q⟩
      | _ => exact nomatch (show (R.no : R PyData) = .ok z S' from h)
    | _ => exact nomatch (show (R.no : R PyData) = .ok z S' from h)
  | find =>
    cases x with
    | str a =>
      cases y with
      | str b =>
        obtain ⟨rfl, rfl⟩ := ret_ok (show ret (PyData.int (Txt.find a b)) S = .ok z S' from h)
        refine ⟨rfl, fun {m Z H u w Q} r d c q => ?_⟩
        rw [PR.str_iff] at d
        simp only [DR] at c
        exact ⟨a, b, d, by rw [c], RQ.int r q⟩
      | _ => exact nomatch (show (R.no : R PyData) = .ok z S' from h)
    | _ => exact nomatch (show (R.no : R PyData) = .ok z S' from h)
  | count =>
    cases x with
    | str a =>
      cases y with
      | str b =>
        obtain ⟨rfl, rfl⟩ := ret_ok (show ret (PyData.int (Txt.count a b)) S = .ok z S' from h)
        refine ⟨rfl, fun {m Z H u w Q} r d c q => ?_⟩
        rw [PR.str_iff] at d
        simp only [DR] at c
        exact ⟨a, b, d, by rw [c], RQ.int r q⟩
      | _ => exact nomatch (show (R.no : R PyData) = .ok z S' from h)
    | _ => exact nomatch (show (R.no : R PyData) = .ok z S' from h)
  | get =>
    cases x with
    | dict kvs =>
      obtain ⟨_, S1, h1, h2⟩ := bnd_ok (show bnd (guard (keyOk kvs y)) (fun _ => ret ((lookD kvs y).getD .none)) S = .ok z S' from h)
      obtain ⟨e, rfl⟩ := guard_ok h1
      obtain ⟨rfl, rfl⟩ := ret_ok h2
      refine ⟨rfl, fun {m Z H u w Q} r a c q => ?_⟩
      obtain ⟨p, rfl, ⟨o, g, mt⟩ | ⟨e0, wr⟩⟩ := dget_of a e c r.sub
      · refine ⟨p, w, rfl, rfl, .inl ⟨o, g, ?_⟩⟩
        cases e3 : lookD kvs y with
        | none =>
          rw [e3] at mt q
          rw [mt]
          exact RQ.non r q
        | some t =>
          rw [e3] at mt q
          obtain ⟨t', rfl, d⟩ := mt
          exact RQ.here r q d
      · rw [e0] at q
        exact ⟨p, w, rfl, rfl, .inr ⟨wr, RQ.non r q⟩⟩
    | _ => exact nomatch (show (R.no : R PyData) = .ok z S' from h)
  | _ => exact nomatch (show (R.no : R PyData) = .ok z S' from h)
theorem MQ.of {i : Nat} {a : Addr} {o o' : Ob} {ho : HO} {v : V} (r : Rel m Z S H) (e : S[i]? = some (some o)) (ha : m[i]? = some a) (new : OR Z o' (upd H a ho) a) (d : DR Z z v) (q : MQ m Z H (S.set i (some o')) z Q) : Q v (upd H a ho) := by
  obtain ⟨r', n'⟩ := r.cellSet e ha new
  exact q _ _ _ n' r' d
theorem m1_ok {k : M1} {v : Val} (h : m1V k v y S = .ok z S') {m Z H u w Q} (r : Rel m Z S H) (hv : VR K m Z v u) (c : DR Z y w) (q : MQ m Z H S' z Q) : rM1 K k u [w] H Q := by
  have plain : (bnd (peek v) fun x => m1D k x y) S = .ok z S' → rM1 K k u [w] H Q := fun h => by
    obtain ⟨x, S1, h1, h2⟩ := bnd_ok h
    obtain ⟨e1, p⟩ := peek_ok (K := K) h1
    rw [e1] at h2
    obtain ⟨e2, p2⟩ := m1D_ok (K := K) h2
    rw [e2] at q
    exact p2 r (p r hv) c q
  cases k with
  | append =>
    cases v with
    | c i =>
      unfold m1V at h
      simp only at h
      split at h
      · rename_i xs e
        split at h
        · rename_i hl
          cases h
          obtain ⟨a, rfl, ha, ⟨us, h1, h2⟩, hz⟩ := r.at_ e hv
          exact ⟨a, us, w, rfl, rfl, h1, by rw [h2.length]; exact hl, MQ.of (o' := .l (xs ++ [y])) r e ha ⟨_, upd_same, DRs.append h2 (DRs.cons c DRs.nil)⟩ (by simp only [DR]) q⟩
        · cases h
      · cases h
    | _ => exact nomatch (show (R.no : R PyData) = .ok z S' from h)
  | pop =>
    cases v with
    | c i =>
      cases y with
      | int j =>
        unfold m1V at h
        simp only at h
        split at h
        · rename_i xs e
          split at h
          · rename_i hb
            split at h
            · rename_i k ek
              split at h
              · rename_i t et
                cases h
                obtain ⟨a, rfl, ha, ⟨us, h1, h2⟩, hz⟩ := r.at_ e hv
                simp only [DR] at c
                obtain ⟨tv, e1, e2⟩ := DRs.get h2 et
                exact ⟨a, us, j, k, tv, rfl, by rw [c], h1, hb.1, hb.2, by rw [h2.length]; exact ixN_seqI ek, e1, MQ.of (o' := .l (xs.eraseIdx k)) r e ha ⟨_, upd_same, h2.eraseIdx k⟩ e2 q⟩
              · cases h
            · cases h
          · cases h
        · cases h
      | _ => exact nomatch (show (R.no : R PyData) = .ok z S' from h)
    | _ =>
      cases y <;> exact nomatch (show (R.no : R PyData) = .ok z S' from h)
  | extend =>
    cases v with
    | c i =>
      cases y with
      | list ys =>
        unfold m1V at h
        simp only at h
        split at h
        · rename_i xs e
          split at h
          · rename_i hl
            cases h
            obtain ⟨a, rfl, ha, ⟨us, h1, h2⟩, hz⟩ := r.at_ e hv
            simp only [DR] at c
            obtain ⟨b, ws, rfl, k1, k2⟩ := c
            exact ⟨a, b, us, ws, rfl, rfl, h1, r.sub.lst k1, by rw [h2.length, k2.length]; exact hl, MQ.of (o' := .l (xs ++ ys)) r e ha ⟨_, upd_same, DRs.append h2 k2⟩ (by simp only [DR]) q⟩
          · cases h
        · cases h
      | _ => exact nomatch (show (R.no : R PyData) = .ok z S' from h)
    | _ =>
      cases y <;> exact nomatch (show (R.no : R PyData) = .ok z S' from h)
  | index => exact plain h
  | join => exact plain h
  | find => exact plain h
  | count => exact plain h
  | split => exact plain h
  | get => exact plain h
/-- o[i] = v -/
theorem setV_ok {v : Val} {t : V} {Q : Hp → Prop} (h : setV v x y S = .ok () S') {m Z H u w} (r : Rel m Z S H) (hv : VR K m Z v u) (hk : DR Z x w) (hy : DR Z y t)
    (q : ∀ H', Nxt m Z H m Z H' → Rel m Z S' H' → Q H') : rSetU u w t H Q := by
  cases v with
  | c i =>
    unfold setV at h
    simp only at h
    split at h
    · rename_i xs e
      split at h
      · rename_i j
        split at h
        · rename_i p ep
          cases h
          obtain ⟨a, rfl, ha, ⟨us, h1, h2⟩, hz⟩ := r.at_ e hv
          simp only [DR] at hk
          obtain ⟨r', n'⟩ := r.cellSet (o' := .l (xs.set p y)) (ho := .lst (us.set p t)) e ha ⟨_, upd_same, h2.set p hy⟩
          exact .inl ⟨a, us, j, p, rfl, hk, h1, by rw [h2.length]; exact ep, q _ n' r'⟩
        · cases h
      · cases h
    · rename_i kvs e
      split at h
      · rename_i hb
        cases h
        obtain ⟨a, rfl, ha, ho, hz⟩ := r.at_ e hv
        have kk := hb.1
        unfold keyOk at kk
        rw [Bool.and_eq_true] at kk
        refine .inr ⟨a, rfl, ?_⟩
        rcases key_cases kk.1 hk with ⟨k0, k, e1, rfl⟩ | ⟨k0, b, k, e1, rfl, e2⟩
        · rcases ho with ⟨ws, g1, g2⟩ | ⟨ws, g1, g2⟩
          · obtain ⟨r', n'⟩ := r.cellSet (o' := .m (putD kvs x y)) (ho := .dK (putK ws k t)) e ha (.inl ⟨_, upd_same, DRk.put e1 hy g2⟩)
            exact .inl ⟨_, DPut.k g1 (by rw [drk_len g2]; exact hb.2), q _ n' r'⟩
          · have en : kvs = [] := by
              cases kvs with
              | nil => rfl
              | cons p t' =>
                have a1 := drt_kind g2 p List.mem_cons_self
                have a2 := kk.2
                rw [List.all_eq_true] at a2
                have a3 := a2 p List.mem_cons_self
                rw [a1, k0] at a3
                cases a3
            subst en
            simp only [DRt] at g2
            subst g2
            obtain ⟨r', n'⟩ := r.cellSet (o' := .m (putD [] x y)) (ho := .dK [(k, t)]) e ha (.inl ⟨_, upd_same, by simp only [putD, List.any_nil, Bool.false_eq_true, if_false, List.nil_append, DRk]; exact ⟨_, _, _, rfl, e1, hy, rfl⟩⟩)
            exact .inr (.inr ⟨k, g1, rfl, q _ n' r'⟩)
        · rcases ho with ⟨ws, g1, g2⟩ | ⟨ws, g1, g2⟩
          · have en : kvs = [] := by
              cases kvs with
              | nil => rfl
              | cons p t' =>
                have a1 := drk_kind g2 p List.mem_cons_self
                have a2 := kk.2
                rw [List.all_eq_true] at a2
                have a3 := a2 p List.mem_cons_self
                rw [a1, k0] at a3
                cases a3
            subst en
            simp only [DRk] at g2
            subst g2
            obtain ⟨r', n'⟩ := r.cellSet (o' := .m (putD [] x y)) (ho := .dT [(k, t)]) e ha (.inr ⟨_, upd_same, by simp only [putD, List.any_nil, Bool.false_eq_true, if_false, List.nil_append, DRt]; exact ⟨_, _, _, rfl, e1, hy, rfl⟩⟩)
            exact .inr (.inl ⟨b, k, g1, rfl, r.sub.tup e2, q _ n' r'⟩)
          · obtain ⟨r', n'⟩ := r.cellSet (o' := .m (putD kvs x y)) (ho := .dT (putK ws k t)) e ha (.inr ⟨_, upd_same, DRt.put e1 hy g2⟩)
            exact .inl ⟨_, DPut.t g1 (r.sub.tup e2) (by rw [drt_len g2]; exact hb.2), q _ n' r'⟩
      · cases h
    · cases h
  | _ => exact nomatch (show (R.no : R Unit) = .ok () S' from h)
end
end Mp
end
section
set_option autoImplicit false
set_option linter.all false
set_option maxRecDepth 100000
set_option maxHeartbeats 4000000
/-! Mp15: each form of expression means what the interpreter says. -/
namespace Mp
open PySem PySem.Spec PyProof.Rows L2
/-! ### written forms -/
def isStar : Expr → Bool
  | .Starred _ _ => true
  | _ => false
theorem star_ok {e : Expr} (h : isStar e = false) (es : List Expr) (env : PySem.Env) : starEach (e :: es) env = (false, PySem.eval e env) :: starEach es env := by
  cases e <;> first | rfl | (cases h)
theorem star_all : ∀ (es : List Expr) (env : PySem.Env), (es.all fun e => !isStar e) = true → ∀ p ∈ starEach es env, p.1 = false
  | [], _, _, p, h => by cases h
  | e :: es, env, a, p, h => by
    rw [List.all_cons, Bool.and_eq_true, Bool.not_eq_true'] at a
    rw [star_ok a.1] at h
    rcases List.mem_cons.mp h with rfl | h
    · rfl
    · exact star_all es env a.2 p h
theorem back_all (es : List Expr) (env : PySem.Env) (pos : Pos) (h : (es.all fun e => !isStar e) = true) : (backTo pos (starEach es env)).any (·.1) = false := by
  rw [List.any_eq_false]
  intro p hp
  unfold backTo at hp
  obtain ⟨q, hq, rfl⟩ := List.mem_map.mp hp
  have := star_all es env h q hq
  obtain ⟨b, t⟩ := q
  simp only at this
  subst this
  simp
theorem few_all (es : List Expr) (env : PySem.Env) (pos : Pos) (h : (es.all fun e => !isStar e) = true) (hl : es.length < 30) : ((backTo pos (starEach es env)).all (fun x => !x.1) && (backToKw pos (keywordEach [] env)).all (fun x => x.1.isSome)
      && decide (es.length + ([] : List Keyword).length + (if ([] : List Keyword).isEmpty then 0 else 1) < 30)) = true := by
  have a := back_all es env pos h
  have b : (backTo pos (starEach es env)).all (fun x => !x.1) = true := by
    rw [List.all_eq_true]
    intro p hp
    rw [List.any_eq_false] at a
    simpa using a p hp
  rw [b]
  have c : (backToKw pos (keywordEach [] env)).all (fun x => x.1.isSome) = true := rfl
  rw [c]
  simp
  exact hl
def isCallE : Expr → Bool
  | .Call _ _ _ _ => true
  | _ => false
theorem base_ok {o : Expr} (h : isCallE o = false) (nm : Str) (env : PySem.Env) (t : Sem Value) : attributeBase o nm env t = t := by
  cases o <;> first | rfl | (cases h)
def isSlice : Expr → Bool
  | .Slice _ _ _ _ => true
  | _ => false
def isSetD : Expr → Bool
  | .Set _ _ _ => true
  | _ => false
theorem marks_ok {e : Expr} (h : isSetD e = false) (op : CmpOp) : behindInMarks op e = false := by
  cases e <;> first | rfl | (cases h)
theorem fold_ok' {e : Expr} (h : isSetD e = false) (env : PySem.Env) (x : Value) : foldedSetIterable e env x = pure x := by
  cases e <;> first | rfl | (cases h)
/-- a test whose truth is its value's -/
def isVal : Expr → Bool
  | .UnaryOp .Not _ _ => false
  | .BoolOp _ _ _ => false
  | .IfExp _ _ _ _ => false
  | .Compare _ _ _ _ => false
  | _ => true
theorem val_ok {e : Expr} (h : isVal e = true) (env : PySem.Env) (whole : Sem Value) : isTrue e env whole = (do let v ← whole; standAt e.pos; holding [v] (truthy v)) := by
  cases e with
  | UnaryOp op a pos => cases op <;> first | rfl | (cases h)
  | BoolOp _ _ _ => cases h
  | IfExp _ _ _ _ => cases h
  | Compare _ _ _ _ => cases h
  | _ => rfl
section
variable {X : Cx} {Γ : Nat → List Val → M Val} {gl : List PyData}
/-- lists of data, of values -/
def semD (K : PySem.W.Frag) (Γ : Nat → List Val → M Val) (gl : List PyData) (es : Exs) : TA := fun σ H Q => ∃ env S xs S' m Z, evalD Γ gl es env S = .ok xs S' ∧ Rel m Z S H ∧ ERel K m Z env σ ∧
  ∀ us m' Z' H', Nxt m Z H m' Z' H' → Rel m' Z' S' H' → DRs Z' xs us → Q us H'
def semVs (K : PySem.W.Frag) (Γ : Nat → List Val → M Val) (gl : List PyData) (es : Exs) : TA := fun σ H Q => ∃ env S xs S' m Z, evalV Γ gl es env S = .ok xs S' ∧ Rel m Z S H ∧ ERel K m Z env σ ∧
  ∀ us m' Z' H', Nxt m Z H m' Z' H' → Rel m' Z' S' H' → VRs K m' Z' xs us → Q us H'
theorem PA.imp {es : List Expr} {t t' : TA} (h : PA X es t) (w : ∀ σ H Q, t' σ H Q → t σ H Q) : PA X es t' := ⟨fun pos pins s σ H Q I q => h.run pos pins s σ H Q I (w σ H Q q)⟩
theorem PI.imp' {tg e : Expr} {t t' : TI} (h : PI X tg e t) (w : ∀ σ H Q, t' σ H Q → t σ H Q) : PI X tg e t' := ⟨fun pins s σ H Q I q => h.run pins s σ H Q I (w σ H Q q)⟩
theorem pad_nil : PA X [] (semD X.K Γ gl .nil) := PA.imp pa_nil fun σ H Q ⟨env, S, xs, S', m, Z, h, r, w, q⟩ => by
  obtain ⟨rfl, rfl⟩ := ret_ok (show ret [] S = .ok xs S' from h)
  exact q [] m Z H .refl r DRs.nil
theorem pad_cons {e : Expr} {es : List Expr} {a : Ex} {as : Exs} (ha : PE X e (semE X.K Γ gl a)) (hr : PA X es (semD X.K Γ gl as)) (hs : isStar e = false) : PA X (e :: es) (semD X.K Γ gl (.cons a as)) :=
  PA.imp (pa_cons ha hr (star_ok hs _ _)) fun σ H Q ⟨env, S, xs, S', m, Z, h, r, w, q⟩ => by
    obtain ⟨v, S1, h1, h2⟩ := bnd_ok (show bnd (eval Γ gl a env) (fun v => bnd (own v) fun x => bnd (evalD Γ gl as env) fun xs => ret (x :: xs)) S = .ok xs S' from h)
    obtain ⟨x, S2, h3, h4⟩ := bnd_ok h2
    obtain ⟨ys, S3, h5, h6⟩ := bnd_ok h4
    obtain ⟨rfl, rfl⟩ := ret_ok h6
    refine semE.at_ h1 r w fun u m1 Z1 H1 n1 r1 w1 v1 => ?_
    obtain ⟨Z2, r2, n2, d2⟩ := own_ok h3 r1 v1
    refine ⟨env, S2, ys, S', m1, Z2, h5, r2, w1.nxt n2, fun us m' Z' H' n r' d => ?_⟩
    exact q (u :: us) m' Z' H' (n1.trans (n2.trans n)) r' (DRs.cons (DR.le n.zle _ _ d2) d)
theorem pav_nil : PA X [] (semVs X.K Γ gl .nil) := PA.imp pa_nil fun σ H Q ⟨env, S, xs, S', m, Z, h, r, w, q⟩ => by
  obtain ⟨rfl, rfl⟩ := ret_ok (show ret [] S = .ok xs S' from h)
  exact q [] m Z H .refl r .nil
theorem pav_cons {e : Expr} {es : List Expr} {a : Ex} {as : Exs} (ha : PE X e (semE X.K Γ gl a)) (hr : PA X es (semVs X.K Γ gl as)) (hs : isStar e = false) : PA X (e :: es) (semVs X.K Γ gl (.cons a as)) :=
  PA.imp (pa_cons ha hr (star_ok hs _ _)) fun σ H Q ⟨env, S, xs, S', m, Z, h, r, w, q⟩ => by
    obtain ⟨v, S1, h1, h2⟩ := bnd_ok (show bnd (eval Γ gl a env) (fun v => bnd (evalV Γ gl as env) fun xs => ret (v :: xs)) S = .ok xs S' from h)
    obtain ⟨ys, S3, h5, h6⟩ := bnd_ok h2
    obtain ⟨rfl, rfl⟩ := ret_ok h6
    refine semE.at_ h1 r w fun u m1 Z1 H1 n1 r1 w1 v1 => ?_
    refine ⟨env, S1, ys, S', m1, Z1, h5, r1, w1, fun us m' Z' H' n r' d => ?_⟩
    exact q (u :: us) m' Z' H' (n1.trans n) r' (.cons (VR.nxt n v1) d)
/-! ### ends -/
theorem Fin_.rq {K : PySem.W.Frag} {m m1 : List Addr} {Z Z1 H H1 : Hp} {S1 : Store} {x : PyData} {v : Val} {S' : Store} {Q : VK} (h : dat x S1 = .ok v S') (n : Nxt m Z H m1 Z1 H1) (f : Fin_ K m Z H S' v Q) : RQ m1 Z1 H1 S1 x Q := by
  obtain ⟨rfl, rfl⟩ := ret_ok h
  exact fun u Z' H' n' r' d => f u m1 Z' H' (n.trans n') r' d
theorem Fin_.bl {K : PySem.W.Frag} {m m1 : List Addr} {Z Z1 H H1 : Hp} {S1 : Store} {b : Bool} {v : Val} {S' : Store} {Q : VK} (h : boo b S1 = .ok v S') (n : Nxt m Z H m1 Z1 H1) (r : Rel m1 Z1 S1 H1) (f : Fin_ K m Z H S' v Q) : Q (.bl b) H1 := by
  obtain ⟨rfl, rfl⟩ := ret_ok h
  exact f (.bl b) m1 Z1 H1 n r (by simp only [VR, DR])
/-! ### names and constants -/
theorem s_var {i : Nat} {x : Str} {pos : Pos} (hN : X.N[i]? = some x) (hv : Vis X.env.scope x) (hd : (x == ("__debug__" : Str)) = false) (hcd : (x == ("__classdict__" : Str)) = false) : PE X (.Name x pos) (semE X.K Γ gl (.var i)) :=
  PE.imp (pe_var hN hv hd hcd) fun σ H Q ⟨env, S, v, S', m, Z, h, r, w, f⟩ => by
    have h' : getV env i S = .ok v S' := h
    unfold getV at h'
    cases e : env[i]? with
    | none => rw [e] at h'; exact (no_ok h').elim
    | some o =>
      cases o with
      | none => rw [e] at h'; exact (no_ok h').elim
      | some v' =>
        rw [e] at h'
        obtain ⟨rfl, rfl⟩ := ret_ok h'
        obtain ⟨u, e1, e2⟩ := w.get i _ e
        exact ⟨u, e1, f u m Z H .refl r e2⟩
theorem s_con {K : PySem.W.Frag} {x : PyData} {u : V} (hu : ∀ Z, DR Z x u) {σ : L2.St} {H : Hp} {Q : VK} (h : semE K Γ gl (.con x) σ H Q) : Q u H := by
  obtain ⟨env, S, v, S', m, Z, h, r, w, f⟩ := h
  obtain ⟨rfl, rfl⟩ := ret_ok (show ret (Val.d x) S = .ok v S' from h)
  exact f u m Z H .refl r (hu Z)
theorem s_int {i : Int} {j : Nat} {pos : Pos} : PE X (.Constant (.int i) j pos) (semE X.K Γ gl (.con (.int i))) := PE.imp pe_int fun σ H Q h => s_con (fun Z => by simp only [DR]) h
theorem s_bl {b : Bool} {j : Nat} {pos : Pos} : PE X (.Constant (.bool b) j pos) (semE X.K Γ gl (.con (.bool b))) := PE.imp pe_bl fun σ H Q h => s_con (fun Z => by simp only [DR]) h
theorem s_str {x : Str} {j : Nat} {pos : Pos} : PE X (.Constant (.str x) j pos) (semE X.K Γ gl (.con (.str x))) := PE.imp pe_str fun σ H Q h => s_con (fun Z => by simp only [DR]) h
theorem s_non {j : Nat} {pos : Pos} : PE X (.Constant .none j pos) (semE X.K Γ gl (.con .none)) := PE.imp pe_non fun σ H Q h => s_con (fun Z => by simp only [DR]) h
theorem s_glb {x : Str} {pos : Pos} {k : Nat} {u : Value} {v : V} {d : PyData} (hg : Gl X x) (hm : X.mg x = some u) (rv : RelV v u) (hk : gl[k]? = some d) (hd : ∀ Z, DR Z d v) (hdb : (x == ("__debug__" : Str)) = false) : PE X (.Name x pos) (semE X.K Γ gl (.glb k)) :=
  PE.imp (pe_glob hg hm rv hdb) fun σ H Q ⟨env, S, v', S', m, Z, h, r, w, f⟩ => by
    obtain ⟨x', S1, h1, h2⟩ := bnd_ok (show bnd (ofO gl[k]?) dat S = .ok v' S' from h)
    obtain ⟨e, rfl⟩ := ofO_ok h1
    rw [hk] at e
    cases e
    obtain ⟨rfl, rfl⟩ := ret_ok (show ret (Val.d d) S1 = .ok v' S' from h2)
    exact f v m Z H .refl r (hd Z)
/-! ### displays -/
theorem s_tup {es : List Expr} {as : Exs} {k : Nat} {pos : Pos} (h : PA X es (semD X.K Γ gl as)) : PE X (.Tuple es k pos) (semE X.K Γ gl (.tup as)) :=
  PE.imp (pe_tup h) fun σ H Q ⟨env, S, v, S', m, Z, h, r, w, f⟩ => by
    obtain ⟨xs, S1, h1, h2⟩ := bnd_ok (show bnd (evalD Γ gl as env) (fun xs => bnd (mkT xs) dat) S = .ok v S' from h)
    obtain ⟨z, S2, h3, h4⟩ := bnd_ok h2
    obtain ⟨rfl, rfl, hz⟩ := mkT_ok h3
    refine ⟨env, S, xs, S2, m, Z, h1, r, w, fun us m' Z' H' n r' d => ⟨by rw [d.length]; exact hz, fun p hp => ?_⟩⟩
    exact RQ.tup r' (f.rq h4 n) d hp
theorem s_lst {es : List Expr} {as : Exs} {pos : Pos} (h : PA X es (semD X.K Γ gl as)) : PE X (.List es pos) (semE X.K Γ gl (.lst as)) :=
  PE.imp (pe_lst h) fun σ H Q ⟨env, S, v, S', m, Z, h, r, w, f⟩ => by
    obtain ⟨xs, S1, h1, h2⟩ := bnd_ok (show bnd (evalD Γ gl as env) (fun xs => bnd (mkL xs) dat) S = .ok v S' from h)
    obtain ⟨z, S2, h3, h4⟩ := bnd_ok h2
    obtain ⟨rfl, rfl, hz⟩ := mkL_ok h3
    refine ⟨env, S, xs, S2, m, Z, h1, r, w, fun us m' Z' H' n r' d => ⟨by rw [d.length]; exact hz, fun p hp => ?_⟩⟩
    exact RQ.lst r' (f.rq h4 n) d hp
/-! ### two operands -/
/-- two values are looked at -/
theorem two_ok {a b : Ex} {α : Type} {g : PyData → PyData → M α} {env : Env} {S S' : Store} {y : α} {m : List Addr} {Z H : Hp} {σ : L2.St} {K : PySem.W.Frag} {R : V → V → Hp → Prop}
    (h : bnd (eval Γ gl a env) (fun v => bnd (eval Γ gl b env) fun u => bnd (peek v) fun x => bnd (peek u) fun y => g x y) S = .ok y S') (r : Rel m Z S H) (w : ERel K m Z env σ)
    (k : ∀ u t x z m' Z' H' S2, g x z S2 = .ok y S' → Nxt m Z H m' Z' H' → Rel m' Z' S2 H' → PR Z' H' x u → PR Z' H' z t → R u t H') :
    semE K Γ gl a σ H fun u H1 => semE K Γ gl b σ H1 fun t H2 => R u t H2 := by
  obtain ⟨v, S1, h1, h2⟩ := bnd_ok h
  obtain ⟨v2, S2, h3, h4⟩ := bnd_ok h2
  obtain ⟨x, S3, h5, h6⟩ := bnd_ok h4
  obtain ⟨z, S4, h7, h8⟩ := bnd_ok h6
  obtain ⟨rfl, p1⟩ := peek_ok (K := K) h5
  obtain ⟨rfl, p2⟩ := peek_ok (K := K) h7
  refine semE.at_ h1 r w fun u m1 Z1 H1 n1 r1 w1 q1 => ?_
  refine semE.at_ h3 r1 w1 fun t m2 Z2 H2 n2 r2 w2 q2 => ?_
  exact k u t x z m2 Z2 H2 _ h8 (n1.trans n2) r2 (p1 r2 (VR.nxt n2 q1)) (p2 r2 q2)
theorem s_bin {o : BinK} {a b : Expr} {ea eb : Ex} {pos : Pos} (ha : PE X a (semE X.K Γ gl ea)) (hb : PE X b (semE X.K Γ gl eb)) : PE X (.BinOp a (opK o) b pos) (semE X.K Γ gl (.bin o ea eb)) :=
  PE.imp (pe_op (op_bin o) ha hb) fun σ H Q ⟨env, S, v, S', m, Z, h, r, w, f⟩ => by
    refine two_ok (g := fun x y => bnd (binD o x y) dat) h r w fun u t x z m' Z' H' S2 h1 n r' p1 p2 => ?_
    obtain ⟨y, S3, h2, h3⟩ := bnd_ok h1
    obtain ⟨rfl, q⟩ := bin_ok (K := X.K) h2
    exact q r' p1 p2 (f.rq h3 n)
theorem s_cmp (hu : X.A.units + 65 < cLine) {o : CmpK} {a b : Expr} {ea eb : Ex} {pos : Pos} (ha : PE X a (semE X.K Γ gl ea)) (hb : PE X b (semE X.K Γ gl eb)) (hm : isSetD b = false) : PE X (.Compare a [cmpO o] [b] pos) (semE X.K Γ gl (.cmp o ea eb)) :=
  PE.imp (pe_cmpR (op_cmp hu o) ha hb (marks_ok hm _)) fun σ H Q ⟨env, S, v, S', m, Z, h, r, w, f⟩ => by
    refine two_ok (g := fun x y => bnd (cmpD o x y) boo) h r w fun u t x z m' Z' H' S2 h1 n r' p1 p2 => ?_
    obtain ⟨y, S3, h2, h3⟩ := bnd_ok h1
    obtain ⟨rfl, q⟩ := cmp_ok (K := X.K) h2
    exact q r' p1 p2 (f.bl h3 n r')
theorem t_cmp (hu : X.A.units + 65 < cLine) {o : CmpK} {a b : Expr} {ea eb : Ex} {pos : Pos} (ha : PE X a (semE X.K Γ gl ea)) (hb : PE X b (semE X.K Γ gl eb)) (hm : isSetD b = false) : PT X (.Compare a [cmpO o] [b] pos) (semT X.K Γ gl (.cmp o ea eb)) :=
  PT.imp (pt_cmpR (op_cmp hu o) ha hb (marks_ok hm _)) fun σ H Q ⟨env, S, v, S', m, Z, h, r, w, f⟩ => by
    refine two_ok (g := fun x y => bnd (cmpD o x y) boo) h r w fun u t x z m' Z' H' S2 h1 n r' p1 p2 => ?_
    obtain ⟨y, S3, h2, h3⟩ := bnd_ok h1
    obtain ⟨rfl, q⟩ := cmp_ok (K := X.K) h2
    obtain ⟨e, rfl⟩ := ret_ok (show ret (Val.d (.bool y)) S3 = .ok _ S' from h3)
    cases e
    exact q r' p1 p2 ⟨_, rfl, f m' Z' H' n r'⟩
theorem chain_sem {K : PySem.W.Frag} {o o' : CmpK} {ea eb ec : Ex} {env : Env} {S S' : Store} {v : Val} {m : List Addr} {Z H : Hp} {σ : L2.St} {Q : VK} (h : eval Γ gl (.chn o o' ea eb ec) env S = .ok v S') (r : Rel m Z S H) (w : ERel K m Z env σ)
    (f : Fin_ K m Z H S' v Q) : tChain (rCmp K o) (rCmp K o') (semE K Γ gl ea) (semE K Γ gl eb) (semE K Γ gl ec) σ H Q := by
  obtain ⟨v1, S1, h1, h2⟩ := bnd_ok (show bnd (eval Γ gl ea env) (fun v => bnd (eval Γ gl eb env) fun u => bnd (peek v) fun x => bnd (peek u) fun y => bnd (cmpD o x y) fun r =>
      if r = true then bnd (eval Γ gl ec env) fun w => bnd (peek u) fun y' => bnd (peek w) fun z => bnd (cmpD o' y' z) boo else boo false) S = .ok v S' from h)
  obtain ⟨v2, S2, h3, h4⟩ := bnd_ok h2
  obtain ⟨x, S3, h5, h6⟩ := bnd_ok h4
  obtain ⟨y, S4, h7, h8⟩ := bnd_ok h6
  obtain ⟨c, S5, h9, h10⟩ := bnd_ok h8
  obtain ⟨rfl, p1⟩ := peek_ok (K := K) h5
  obtain ⟨rfl, p2⟩ := peek_ok (K := K) h7
  obtain ⟨rfl, q⟩ := cmp_ok (K := K) h9
  refine semE.at_ h1 r w fun u m1 Z1 H1 n1 r1 w1 q1 => ?_
  refine semE.at_ h3 r1 w1 fun t m2 Z2 H2 n2 r2 w2 q2 => ?_
  refine q r2 (p1 r2 (VR.nxt n2 q1)) (p2 r2 q2) ⟨c, rfl, ?_⟩
  split
  · rename_i hc
    rw [if_pos hc] at h10
    obtain ⟨v3, S6, k1, k2⟩ := bnd_ok h10
    obtain ⟨y', S7, k3, k4⟩ := bnd_ok k2
    obtain ⟨z, S8, k5, k6⟩ := bnd_ok k4
    obtain ⟨b, S9, k7, k8⟩ := bnd_ok k6
    obtain ⟨rfl, p3⟩ := peek_ok (K := K) k3
    obtain ⟨rfl, p4⟩ := peek_ok (K := K) k5
    obtain ⟨rfl, q'⟩ := cmp_ok (K := K) k7
    refine semE.at_ k1 r2 w2 fun t' m3 Z3 H3 n3 r3 w3 q3 => ?_
    exact q' r3 (p3 r3 (VR.nxt n3 q2)) (p4 r3 q3) (f.bl k8 (n1.trans (n2.trans n3)) r3)
  · rename_i hc
    rw [if_neg hc] at h10
    exact f.bl h10 (n1.trans n2) r2
theorem lmarks_ok {b c : Expr} (h : isSetD c = false) (o o' : CmpOp) : lastMarks [o, o'] [b, c] = false := by
  show behindInMarks o' c = false
  exact marks_ok h _
theorem s_chn (hu : X.A.units + 65 < cLine) {o o' : CmpK} {a b c : Expr} {ea eb ec : Ex} {pos : Pos} (ha : PE X a (semE X.K Γ gl ea)) (hb : PE X b (semE X.K Γ gl eb)) (hc : PE X c (semE X.K Γ gl ec)) (hm : isSetD c = false) :
    PE X (.Compare a [cmpO o, cmpO o'] [b, c] pos) (semE X.K Γ gl (.chn o o' ea eb ec)) :=
  PE.imp (pe_chain (op_cmp hu o) (op_cmp hu o') ha hb hc (lmarks_ok hm _ _)) fun σ H Q ⟨env, S, v, S', m, Z, h, r, w, f⟩ => chain_sem h r w f
theorem t_chn (hu : X.A.units + 65 < cLine) {o o' : CmpK} {a b c : Expr} {ea eb ec : Ex} {pos : Pos} (ha : PE X a (semE X.K Γ gl ea)) (hb : PE X b (semE X.K Γ gl eb)) (hc : PE X c (semE X.K Γ gl ec)) (hm : isSetD c = false) :
    PT X (.Compare a [cmpO o, cmpO o'] [b, c] pos) (semT X.K Γ gl (.chn o o' ea eb ec)) :=
  PT.imp (pt_chain (op_cmp hu o) (op_cmp hu o') ha hb hc (lmarks_ok hm _ _)) fun σ H Q ⟨env, S, v, S', m, Z, h, r, w, f⟩ =>
    chain_sem h r w fun u m' Z' H' n r' q => ⟨v, by simpa only [VR, DR] using q, f m' Z' H' n r'⟩
/-! ### tests -/
theorem t_val {e : Expr} {a : Ex} (h : PE X e (semE X.K Γ gl a)) (hv : isVal e = true) : PT X e (semT X.K Γ gl a) :=
  PT.imp (pt_val h (val_ok hv _)) fun σ H Q ⟨env, S, b, S', m, Z, h, r, w, f⟩ => by
    exact ⟨env, S, _, S', m, Z, h, r, w, fun u m' Z' H' n r' q => ⟨b, by simpa only [VR, DR] using q, f m' Z' H' n r'⟩⟩
theorem toB_ok {v : Val} {b : Bool} {S S' : Store} (h : toB v S = .ok b S') : v = .d (.bool b) ∧ S' = S := by
  cases v with
  | d x =>
    cases x with
    | bool c =>
      obtain ⟨rfl, rfl⟩ := ret_ok (show ret c S = .ok b S' from h)
      exact ⟨rfl, rfl⟩
    | _ => exact nomatch (show (R.no : R Bool) = .ok b S' from h)
  | _ => exact nomatch (show (R.no : R Bool) = .ok b S' from h)
theorem toI_ok {v : Val} {b : Int} {S S' : Store} (h : toI v S = .ok b S') : v = .d (.int b) ∧ S' = S := by
  cases v with
  | d x =>
    cases x with
    | int c =>
      obtain ⟨rfl, rfl⟩ := ret_ok (show ret c S = .ok b S' from h)
      exact ⟨rfl, rfl⟩
    | _ => exact nomatch (show (R.no : R Int) = .ok b S' from h)
  | _ => exact nomatch (show (R.no : R Int) = .ok b S' from h)
theorem s_not {e : Expr} {a : Ex} {pos : Pos} (h : PE X e (semE X.K Γ gl a)) : PE X (.UnaryOp .Not e pos) (semE X.K Γ gl (.not a)) :=
  PE.imp (pe_not h) fun σ H Q ⟨env, S, v, S', m, Z, h, r, w, f⟩ => by
    obtain ⟨v1, S1, h1, h2⟩ := bnd_ok (show bnd (eval Γ gl a env) (fun v => bnd (toB v) fun b => boo (!b)) S = .ok v S' from h)
    obtain ⟨b, S2, h3, h4⟩ := bnd_ok h2
    obtain ⟨rfl, rfl⟩ := toB_ok h3
    refine semE.at_ h1 r w fun u m1 Z1 H1 n1 r1 w1 q1 => ⟨b, by simpa only [VR, DR] using q1, f.bl h4 n1 r1⟩
theorem t_not {e : Expr} {a : Ex} {pos : Pos} (h : PT X e (semT X.K Γ gl a)) : PT X (.UnaryOp .Not e pos) (semT X.K Γ gl (.not a)) :=
  PT.imp (pt_not h) fun σ H Q ⟨env, S, v, S', m, Z, h, r, w, f⟩ => by
    obtain ⟨v1, S1, h1, h2⟩ := bnd_ok (show bnd (eval Γ gl a env) (fun v => bnd (toB v) fun b => boo (!b)) S = .ok (.d (.bool v)) S' from h)
    obtain ⟨b, S2, h3, h4⟩ := bnd_ok h2
    obtain ⟨rfl, rfl⟩ := toB_ok h3
    obtain ⟨e, rfl⟩ := ret_ok (show ret (Val.d (.bool !b)) S2 = .ok _ S' from h4)
    cases e
    exact semT.at_ h1 r w fun m1 Z1 H1 n1 r1 w1 => f m1 Z1 H1 n1 r1
theorem s_ite {t a b : Expr} {et ea eb : Ex} {pos : Pos} (ht : PT X t (semT X.K Γ gl et)) (ha : PE X a (semE X.K Γ gl ea)) (hb : PE X b (semE X.K Γ gl eb)) : PE X (.IfExp t a b pos) (semE X.K Γ gl (.ite et ea eb)) :=
  PE.imp (pe_ifExp ht ha hb) fun σ H Q ⟨env, S, v, S', m, Z, h, r, w, f⟩ => by
    obtain ⟨v1, S1, h1, h2⟩ := bnd_ok (show bnd (eval Γ gl et env) (fun v => bnd (toB v) fun c => if c = true then eval Γ gl ea env else eval Γ gl eb env) S = .ok v S' from h)
    obtain ⟨c, S2, h3, h4⟩ := bnd_ok h2
    obtain ⟨rfl, rfl⟩ := toB_ok h3
    refine semT.at_ h1 r w fun m1 Z1 H1 n1 r1 w1 => ?_
    split
    · rename_i hc
      rw [if_pos hc] at h4
      exact semE.at_ h4 r1 w1 fun u m2 Z2 H2 n2 r2 w2 q2 => f u m2 Z2 H2 (n1.trans n2) r2 q2
    · rename_i hc
      rw [if_neg hc] at h4
      exact semE.at_ h4 r1 w1 fun u m2 Z2 H2 n2 r2 w2 q2 => f u m2 Z2 H2 (n1.trans n2) r2 q2
end
end Mp
end
section
set_option autoImplicit false
set_option linter.all false
set_option maxRecDepth 100000
set_option maxHeartbeats 4000000
/-! Mp16: and, or; subscripts, slices; built-ins; methods. -/
namespace Mp
open PySem PySem.Spec PyProof.Rows L2
section
variable {X : Cx} {Γ : Nat → List Val → M Val} {gl : List PyData}
def semBE (K : PySem.W.Frag) (f : Env → M Bool) : TE := fun σ H Q => ∃ env S b S' m Z, f env S = .ok b S' ∧ Rel m Z S H ∧ ERel K m Z env σ ∧ ∀ m' Z' H', Nxt m Z H m' Z' H' → Rel m' Z' S' H' → Q (.bl b) H'
def semBT (K : PySem.W.Frag) (f : Env → M Bool) : TT := fun σ H Q => ∃ env S b S' m Z, f env S = .ok b S' ∧ Rel m Z S H ∧ ERel K m Z env σ ∧ ∀ m' Z' H', Nxt m Z H m' Z' H' → Rel m' Z' S' H' → Q b H'
theorem s_and1 {e : Expr} {a : Ex} {pos : Pos} (h : PE X e (semE X.K Γ gl a)) : PE X (.BoolOp .And [e] pos) (semBE X.K (evalA Γ gl (.cons a .nil))) :=
  PE.imp (pe_one h) fun σ H Q ⟨env, S, b, S', m, Z, h, r, w, f⟩ => by
    obtain ⟨v, S1, h1, h2⟩ := bnd_ok (show bnd (eval Γ gl a env) (fun v => bnd (toB v) fun b => if b = true then ret true else ret false) S = .ok b S' from h)
    obtain ⟨c, S2, h3, h4⟩ := bnd_ok h2
    obtain ⟨rfl, rfl⟩ := toB_ok h3
    have e : b = c ∧ S' = S2 := by
      cases c
      · exact ret_ok (show ret false S2 = .ok b S' from h4)
      · exact ret_ok (show ret true S2 = .ok b S' from h4)
    obtain ⟨rfl, rfl⟩ := e
    refine semE.at_ h1 r w fun u m1 Z1 H1 n1 r1 w1 q1 => ?_
    have e : u = .bl b := by simpa only [VR, DR] using q1
    rw [e]
    exact f m1 Z1 H1 n1 r1
theorem s_or1 {e : Expr} {a : Ex} {pos : Pos} (h : PE X e (semE X.K Γ gl a)) : PE X (.BoolOp .Or [e] pos) (semBE X.K (evalO Γ gl (.cons a .nil))) :=
  PE.imp (pe_one h) fun σ H Q ⟨env, S, b, S', m, Z, h, r, w, f⟩ => by
    obtain ⟨v, S1, h1, h2⟩ := bnd_ok (show bnd (eval Γ gl a env) (fun v => bnd (toB v) fun b => if b = true then ret true else ret false) S = .ok b S' from h)
    obtain ⟨c, S2, h3, h4⟩ := bnd_ok h2
    obtain ⟨rfl, rfl⟩ := toB_ok h3
    have e : b = c ∧ S' = S2 := by
      cases c
      · exact ret_ok (show ret false S2 = .ok b S' from h4)
      · exact ret_ok (show ret true S2 = .ok b S' from h4)
    obtain ⟨rfl, rfl⟩ := e
    refine semE.at_ h1 r w fun u m1 Z1 H1 n1 r1 w1 q1 => ?_
    have e : u = .bl b := by simpa only [VR, DR] using q1
    rw [e]
    exact f m1 Z1 H1 n1 r1
theorem s_andc {e e' : Expr} {es : List Expr} {a : Ex} {as : Exs} {pos : Pos} (h : PE X e (semE X.K Γ gl a)) (hr : PE X (.BoolOp .And (e' :: es) pos) (semBE X.K (evalA Γ gl as))) :
    PE X (.BoolOp .And (e :: e' :: es) pos) (semBE X.K (evalA Γ gl (.cons a as))) :=
  PE.imp (pe_and h hr) fun σ H Q ⟨env, S, b, S', m, Z, h, r, w, f⟩ => by
    obtain ⟨v, S1, h1, h2⟩ := bnd_ok (show bnd (eval Γ gl a env) (fun v => bnd (toB v) fun b => if b = true then evalA Γ gl as env else ret false) S = .ok b S' from h)
    obtain ⟨c, S2, h3, h4⟩ := bnd_ok h2
    obtain ⟨rfl, rfl⟩ := toB_ok h3
    refine semE.at_ h1 r w fun u m1 Z1 H1 n1 r1 w1 q1 => ⟨c, by simpa only [VR, DR] using q1, ?_⟩
    split
    · rename_i hc
      rw [if_pos hc] at h4
      exact ⟨env, S2, b, S', m1, Z1, h4, r1, w1, fun m' Z' H' n r' => f m' Z' H' (n1.trans n) r'⟩
    · rename_i hc
      rw [if_neg hc] at h4
      obtain ⟨rfl, rfl⟩ := ret_ok h4
      exact f m1 Z1 H1 n1 r1
theorem s_orc {e e' : Expr} {es : List Expr} {a : Ex} {as : Exs} {pos : Pos} (h : PE X e (semE X.K Γ gl a)) (hr : PE X (.BoolOp .Or (e' :: es) pos) (semBE X.K (evalO Γ gl as))) :
    PE X (.BoolOp .Or (e :: e' :: es) pos) (semBE X.K (evalO Γ gl (.cons a as))) :=
  PE.imp (pe_or h hr) fun σ H Q ⟨env, S, b, S', m, Z, h, r, w, f⟩ => by
    obtain ⟨v, S1, h1, h2⟩ := bnd_ok (show bnd (eval Γ gl a env) (fun v => bnd (toB v) fun b => if b = true then ret true else evalO Γ gl as env) S = .ok b S' from h)
    obtain ⟨c, S2, h3, h4⟩ := bnd_ok h2
    obtain ⟨rfl, rfl⟩ := toB_ok h3
    refine semE.at_ h1 r w fun u m1 Z1 H1 n1 r1 w1 q1 => ⟨c, by simpa only [VR, DR] using q1, ?_⟩
    split
    · rename_i hc
      rw [if_pos hc] at h4
      obtain ⟨rfl, rfl⟩ := ret_ok h4
      exact f m1 Z1 H1 n1 r1
    · rename_i hc
      rw [if_neg hc] at h4
      exact ⟨env, S2, b, S', m1, Z1, h4, r1, w1, fun m' Z' H' n r' => f m' Z' H' (n1.trans n) r'⟩
theorem s_and {es : List Expr} {as : Exs} {pos : Pos} (h : PE X (.BoolOp .And es pos) (semBE X.K (evalA Γ gl as))) : PE X (.BoolOp .And es pos) (semE X.K Γ gl (.and as)) :=
  PE.imp h fun σ H Q ⟨env, S, v, S', m, Z, h, r, w, f⟩ => by
    obtain ⟨b, S1, h1, h2⟩ := bnd_ok (show bnd (evalA Γ gl as env) boo S = .ok v S' from h)
    exact ⟨env, S, b, S1, m, Z, h1, r, w, fun m' Z' H' n r' => f.bl h2 n r'⟩
theorem s_or {es : List Expr} {as : Exs} {pos : Pos} (h : PE X (.BoolOp .Or es pos) (semBE X.K (evalO Γ gl as))) : PE X (.BoolOp .Or es pos) (semE X.K Γ gl (.or as)) :=
  PE.imp h fun σ H Q ⟨env, S, v, S', m, Z, h, r, w, f⟩ => by
    obtain ⟨b, S1, h1, h2⟩ := bnd_ok (show bnd (evalO Γ gl as env) boo S = .ok v S' from h)
    exact ⟨env, S, b, S1, m, Z, h1, r, w, fun m' Z' H' n r' => f.bl h2 n r'⟩
/-! .. as tests -/
theorem PW.imp {e : Expr} {t t' : TT} (h : PW X e t) (w : ∀ σ H Q, t' σ H Q → t σ H Q) : PW X e t' := ⟨fun wh pins s σ H Q I q => h.run wh pins s σ H Q I (w σ H Q q)⟩
theorem t_and1 {e : Expr} {a : Ex} {pos : Pos} (h : PT X e (semT X.K Γ gl a)) : PW X (.BoolOp .And [e] pos) (semBT X.K (evalA Γ gl (.cons a .nil))) :=
  PW.imp (pw_and1 h) fun σ H Q ⟨env, S, b, S', m, Z, h, r, w, f⟩ => by
    obtain ⟨v, S1, h1, h2⟩ := bnd_ok (show bnd (eval Γ gl a env) (fun v => bnd (toB v) fun b => if b = true then ret true else ret false) S = .ok b S' from h)
    obtain ⟨c, S2, h3, h4⟩ := bnd_ok h2
    obtain ⟨rfl, rfl⟩ := toB_ok h3
    have e : b = c ∧ S' = S2 := by
      cases c
      · exact ret_ok (show ret false S2 = .ok b S' from h4)
      · exact ret_ok (show ret true S2 = .ok b S' from h4)
    obtain ⟨rfl, rfl⟩ := e
    exact semT.at_ h1 r w fun m1 Z1 H1 n1 r1 w1 => f m1 Z1 H1 n1 r1
theorem t_or1 {e : Expr} {a : Ex} {pos : Pos} (h : PT X e (semT X.K Γ gl a)) : PW X (.BoolOp .Or [e] pos) (semBT X.K (evalO Γ gl (.cons a .nil))) :=
  PW.imp (pw_or1 h) fun σ H Q ⟨env, S, b, S', m, Z, h, r, w, f⟩ => by
    obtain ⟨v, S1, h1, h2⟩ := bnd_ok (show bnd (eval Γ gl a env) (fun v => bnd (toB v) fun b => if b = true then ret true else ret false) S = .ok b S' from h)
    obtain ⟨c, S2, h3, h4⟩ := bnd_ok h2
    obtain ⟨rfl, rfl⟩ := toB_ok h3
    have e : b = c ∧ S' = S2 := by
      cases c
      · exact ret_ok (show ret false S2 = .ok b S' from h4)
      · exact ret_ok (show ret true S2 = .ok b S' from h4)
    obtain ⟨rfl, rfl⟩ := e
    exact semT.at_ h1 r w fun m1 Z1 H1 n1 r1 w1 => f m1 Z1 H1 n1 r1
theorem t_andc {e e' : Expr} {es : List Expr} {a : Ex} {as : Exs} {pos : Pos} (h : PT X e (semT X.K Γ gl a)) (hr : PW X (.BoolOp .And (e' :: es) pos) (semBT X.K (evalA Γ gl as))) :
    PW X (.BoolOp .And (e :: e' :: es) pos) (semBT X.K (evalA Γ gl (.cons a as))) :=
  PW.imp (pw_and h hr) fun σ H Q ⟨env, S, b, S', m, Z, h, r, w, f⟩ => by
    obtain ⟨v, S1, h1, h2⟩ := bnd_ok (show bnd (eval Γ gl a env) (fun v => bnd (toB v) fun b => if b = true then evalA Γ gl as env else ret false) S = .ok b S' from h)
    obtain ⟨c, S2, h3, h4⟩ := bnd_ok h2
    obtain ⟨rfl, rfl⟩ := toB_ok h3
    refine semT.at_ h1 r w fun m1 Z1 H1 n1 r1 w1 => ?_
    split
    · rename_i hc
      rw [if_pos hc] at h4
      exact ⟨env, S2, b, S', m1, Z1, h4, r1, w1, fun m' Z' H' n r' => f m' Z' H' (n1.trans n) r'⟩
    · rename_i hc
      rw [if_neg hc] at h4
      obtain ⟨rfl, rfl⟩ := ret_ok h4
      exact f m1 Z1 H1 n1 r1
theorem t_orc {e e' : Expr} {es : List Expr} {a : Ex} {as : Exs} {pos : Pos} (h : PT X e (semT X.K Γ gl a)) (hr : PW X (.BoolOp .Or (e' :: es) pos) (semBT X.K (evalO Γ gl as))) :
    PW X (.BoolOp .Or (e :: e' :: es) pos) (semBT X.K (evalO Γ gl (.cons a as))) :=
  PW.imp (pw_or h hr) fun σ H Q ⟨env, S, b, S', m, Z, h, r, w, f⟩ => by
    obtain ⟨v, S1, h1, h2⟩ := bnd_ok (show bnd (eval Γ gl a env) (fun v => bnd (toB v) fun b => if b = true then ret true else evalO Γ gl as env) S = .ok b S' from h)
    obtain ⟨c, S2, h3, h4⟩ := bnd_ok h2
    obtain ⟨rfl, rfl⟩ := toB_ok h3
    refine semT.at_ h1 r w fun m1 Z1 H1 n1 r1 w1 => ?_
    split
    · rename_i hc
      rw [if_pos hc] at h4
      obtain ⟨rfl, rfl⟩ := ret_ok h4
      exact f m1 Z1 H1 n1 r1
    · rename_i hc
      rw [if_neg hc] at h4
      exact ⟨env, S2, b, S', m1, Z1, h4, r1, w1, fun m' Z' H' n r' => f m' Z' H' (n1.trans n) r'⟩
theorem t_and {es : List Expr} {as : Exs} {pos : Pos} (h : PW X (.BoolOp .And es pos) (semBT X.K (evalA Γ gl as))) : PT X (.BoolOp .And es pos) (semT X.K Γ gl (.and as)) :=
  PT.imp h.pt fun σ H Q ⟨env, S, v, S', m, Z, h, r, w, f⟩ => by
    obtain ⟨b, S1, h1, h2⟩ := bnd_ok (show bnd (evalA Γ gl as env) boo S = .ok (.d (.bool v)) S' from h)
    obtain ⟨e, rfl⟩ := ret_ok (show ret (Val.d (.bool b)) S1 = .ok _ S' from h2)
    cases e
    exact ⟨env, S, _, S', m, Z, h1, r, w, f⟩
theorem t_or {es : List Expr} {as : Exs} {pos : Pos} (h : PW X (.BoolOp .Or es pos) (semBT X.K (evalO Γ gl as))) : PT X (.BoolOp .Or es pos) (semT X.K Γ gl (.or as)) :=
  PT.imp h.pt fun σ H Q ⟨env, S, v, S', m, Z, h, r, w, f⟩ => by
    obtain ⟨b, S1, h1, h2⟩ := bnd_ok (show bnd (evalO Γ gl as env) boo S = .ok (.d (.bool v)) S' from h)
    obtain ⟨e, rfl⟩ := ret_ok (show ret (Val.d (.bool b)) S1 = .ok _ S' from h2)
    cases e
    exact ⟨env, S, _, S', m, Z, h1, r, w, f⟩
/-! ### subscripts -/
theorem plainIx_ok {b : Expr} (h : isSlice b = false) : PlainIx b := by
  intro o i
  cases b <;> first | rfl | (cases h)
theorem ixV_ok {K : PySem.W.Frag} {v : Val} {y z : PyData} {S S' : Store} (h : ixV v y S = .ok z S') {m : List Addr} {Z H : Hp} {u t : V} {Q : VK} (r : Rel m Z S H) (hv : VR K m Z v u) (hy : PR Z H y t) (q : RQ m Z H S' z Q) : rIxU K u t H Q := by
  have gen : bnd (peek v) (fun x => ixD x y) S = .ok z S' → rIxU K u t H Q := fun h => by
    obtain ⟨x, S1, h1, h2⟩ := bnd_ok h
    obtain ⟨e, p⟩ := peek_ok (K := K) h1
    rw [e] at h2
    obtain ⟨e2, k⟩ := ix_ok (K := K) h2
    rw [e2] at q
    exact k r (p r hv) hy q
  cases v with
  | scr ns =>
    cases y with
    | int i =>
      obtain ⟨n, S1, h1, h2⟩ := bnd_ok (show bnd (ofO (L2.atI ns i)) (fun n => ret (PyData.int n)) S = .ok z S' from h)
      obtain ⟨e, rfl⟩ := ofO_ok h1
      obtain ⟨rfl, rfl⟩ := ret_ok h2
      obtain ⟨a, rfl, hs⟩ := hv
      rw [PR.int_iff] at hy
      refine .inl (.inl ⟨a, ns.map V.int, i, .int n, rfl, hy, Sub.sqL r.sub hs, ?_, RQ.int r q⟩)
      unfold atI at e ⊢
      rw [List.length_map]
      cases c : ixN ns.length i with
      | none => rw [c] at e; cases e
      | some j =>
        rw [c] at e
        have e' : ns[j]? = some n := e
        show (ns.map V.int)[j]? = some (V.int n)
        rw [List.getElem?_map, e']
        rfl
    | _ => exact nomatch (show (R.no : R PyData) = .ok z S' from h)
  | d x => exact gen h
  | c i => exact gen h
theorem s_ix (hu : X.A.units + 65 < cLine) {a b : Expr} {ea eb : Ex} {pos : Pos} (ha : PE X a (semE X.K Γ gl ea)) (hb : PE X b (semE X.K Γ gl eb)) (hs : isSlice b = false) : PE X (.Subscript a b pos) (semE X.K Γ gl (.ix ea eb)) :=
  PE.imp (pe_ix (ix_u hu) ha hb (plainIx_ok hs)) fun σ H Q ⟨env, S, v, S', m, Z, h, r, w, f⟩ => by
    obtain ⟨v1, S1, h1, h2⟩ := bnd_ok (show bnd (eval Γ gl ea env) (fun v => bnd (eval Γ gl eb env) fun u => bnd (peek u) fun i => bnd (ixV v i) dat) S = .ok v S' from h)
    obtain ⟨v2, S2, h3, h4⟩ := bnd_ok h2
    obtain ⟨x, S3, h5, h6⟩ := bnd_ok h4
    obtain ⟨y, S4, h7, h8⟩ := bnd_ok h6
    obtain ⟨rfl, p1⟩ := peek_ok (K := X.K) h5
    refine semE.at_ h1 r w fun u m1 Z1 H1 n1 r1 w1 q1 => ?_
    refine semE.at_ h3 r1 w1 fun t m2 Z2 H2 n2 r2 w2 q2 => ?_
    exact ixV_ok h7 r2 (VR.nxt n2 q1) (p1 r2 q2) (f.rq h8 (n1.trans n2))
/-! ### slices -/
theorem slV_ok {K : PySem.W.Frag} {v : Val} {lo hi : Option Int} {z : PyData} {S S' : Store} (h : slV v lo hi S = .ok z S') {m : List Addr} {Z H : Hp} {u : V} {Q : VK} (r : Rel m Z S H) (hv : VR K m Z v u) (q : RQ m Z H S' z Q) : rSlU K u lo hi H Q := by
  have gen : bnd (peek v) (fun x => slD x lo hi) S = .ok z S' → rSlU K u lo hi H Q := fun h => by
    obtain ⟨x, S1, h1, h2⟩ := bnd_ok h
    obtain ⟨e, p⟩ := peek_ok (K := K) h1
    rw [e] at h2
    obtain ⟨e2, k⟩ := sl_ok (K := K) h2
    rw [e2] at q
    exact k r (p r hv) q
  cases v with
  | scr ns =>
    obtain ⟨rfl, rfl⟩ := ret_ok (show ret (PyData.list (cutD (ns.map .int) lo hi)) S = .ok z S' from h)
    obtain ⟨a, rfl, hs⟩ := hv
    exact .inl ⟨a, ns.map V.int, rfl, Sub.sqL r.sub hs, fun p hp => RQ.lst r q (cutD_dr lo hi (DRs.of_ints ns)) hp⟩
  | d x => exact gen h
  | c i => exact gen h
theorem s_slf {a b : Expr} {ea eb : Ex} {p2 pos : Pos} (ha : PE X a (semE X.K Γ gl ea)) (hb : PE X b (semE X.K Γ gl eb)) : PE X (.Subscript a (.Slice (some b) none none p2) pos) (semE X.K Γ gl (.slf ea eb)) :=
  PE.imp (pe_slice sl_u ha (po_some hb) po_none) fun σ H Q ⟨env, S, v, S', m, Z, h, r, w, f⟩ => by
    obtain ⟨v1, S1, h1, h2⟩ := bnd_ok (show bnd (eval Γ gl ea env) (fun v => bnd (eval Γ gl eb env) fun u => bnd (toI u) fun i => bnd (slV v (some i) none) dat) S = .ok v S' from h)
    obtain ⟨v2, S2, h3, h4⟩ := bnd_ok h2
    obtain ⟨i, S3, h5, h6⟩ := bnd_ok h4
    obtain ⟨y, S4, h7, h8⟩ := bnd_ok h6
    obtain ⟨rfl, rfl⟩ := toI_ok h5
    refine semE.at_ h1 r w fun u m1 Z1 H1 n1 r1 w1 q1 => ?_
    refine semE.at_ h3 r1 w1 fun t m2 Z2 H2 n2 r2 w2 q2 => ⟨i, by simpa only [VR, DR] using q2, ?_⟩
    exact slV_ok h7 r2 (VR.nxt n2 q1) (f.rq h8 (n1.trans n2))
theorem s_slt {a b : Expr} {ea eb : Ex} {p2 pos : Pos} (ha : PE X a (semE X.K Γ gl ea)) (hb : PE X b (semE X.K Γ gl eb)) : PE X (.Subscript a (.Slice none (some b) none p2) pos) (semE X.K Γ gl (.slt ea eb)) :=
  PE.imp (pe_slice sl_u ha po_none (po_some hb)) fun σ H Q ⟨env, S, v, S', m, Z, h, r, w, f⟩ => by
    obtain ⟨v1, S1, h1, h2⟩ := bnd_ok (show bnd (eval Γ gl ea env) (fun v => bnd (eval Γ gl eb env) fun u => bnd (toI u) fun i => bnd (slV v none (some i)) dat) S = .ok v S' from h)
    obtain ⟨v2, S2, h3, h4⟩ := bnd_ok h2
    obtain ⟨i, S3, h5, h6⟩ := bnd_ok h4
    obtain ⟨y, S4, h7, h8⟩ := bnd_ok h6
    obtain ⟨rfl, rfl⟩ := toI_ok h5
    refine semE.at_ h1 r w fun u m1 Z1 H1 n1 r1 w1 q1 => ?_
    refine semE.at_ h3 r1 w1 fun t m2 Z2 H2 n2 r2 w2 q2 => ⟨i, by simpa only [VR, DR] using q2, ?_⟩
    exact slV_ok h7 r2 (VR.nxt n2 q1) (f.rq h8 (n1.trans n2))
theorem s_slb {a b c : Expr} {ea eb ec : Ex} {p2 pos : Pos} (ha : PE X a (semE X.K Γ gl ea)) (hb : PE X b (semE X.K Γ gl eb)) (hc : PE X c (semE X.K Γ gl ec)) : PE X (.Subscript a (.Slice (some b) (some c) none p2) pos) (semE X.K Γ gl (.slb ea eb ec)) :=
  PE.imp (pe_slice sl_u ha (po_some hb) (po_some hc)) fun σ H Q ⟨env, S, v, S', m, Z, h, r, w, f⟩ => by
    obtain ⟨v1, S1, h1, h2⟩ := bnd_ok (show bnd (eval Γ gl ea env) (fun v => bnd (eval Γ gl eb env) fun u => bnd (toI u) fun i => bnd (eval Γ gl ec env) fun w => bnd (toI w) fun j => bnd (slV v (some i) (some j)) dat) S = .ok v S' from h)
    obtain ⟨v2, S2, h3, h4⟩ := bnd_ok h2
    obtain ⟨i, S3, h5, h6⟩ := bnd_ok h4
    obtain ⟨v3, S4, h7, h8⟩ := bnd_ok h6
    obtain ⟨j, S5, h9, h10⟩ := bnd_ok h8
    obtain ⟨y, S6, h11, h12⟩ := bnd_ok h10
    obtain ⟨rfl, rfl⟩ := toI_ok h5
    obtain ⟨rfl, rfl⟩ := toI_ok h9
    refine semE.at_ h1 r w fun u m1 Z1 H1 n1 r1 w1 q1 => ?_
    refine semE.at_ h3 r1 w1 fun t m2 Z2 H2 n2 r2 w2 q2 => ⟨i, by simpa only [VR, DR] using q2, ?_⟩
    refine semE.at_ h7 r2 w2 fun t' m3 Z3 H3 n3 r3 w3 q3 => ⟨j, by simpa only [VR, DR] using q3, ?_⟩
    exact slV_ok h11 r3 (VR.nxt (n2.trans n3) q1) (f.rq h12 (n1.trans (n2.trans n3)))
theorem s_rev {a : Expr} {ea : Ex} {k : Nat} {p1 p2 p3 pos : Pos} (ha : PE X a (semE X.K Γ gl ea)) : PE X (.Subscript a (.Slice none none (some (.UnaryOp .USub (.Constant (.int 1) k p1) p2)) p3) pos) (semE X.K Γ gl (.rev ea)) :=
  PE.imp (pe_revL ha) fun σ H Q ⟨env, S, v, S', m, Z, h, r, w, f⟩ => by
    obtain ⟨v1, S1, h1, h2⟩ := bnd_ok (show bnd (eval Γ gl ea env) (fun v => bnd (peek v) fun x => match x with
      | .list xs => dat (.list xs.reverse)
      | _ => no) S = .ok v S' from h)
    obtain ⟨x, S2, h3, h4⟩ := bnd_ok h2
    obtain ⟨rfl, p1⟩ := peek_ok (K := X.K) h3
    refine semE.at_ h1 r w fun u m1 Z1 H1 n1 r1 w1 q1 => ?_
    cases x with
    | list xs =>
      obtain ⟨p, us, rfl, g1, g2⟩ := p1 r1 q1
      exact ⟨p, us, rfl, SqL.of g1, fun p' hp => RQ.lst r1 (f.rq (x := .list xs.reverse) h4 n1) g2.reverse hp⟩
    | _ => exact nomatch (show (R.no : R Val) = .ok v S' from h4)
end
end Mp
end
section
set_option autoImplicit false
set_option linter.all false
set_option maxRecDepth 100000
set_option maxHeartbeats 4000000
/-! Mp17: calls of built-ins and of methods. -/
namespace Mp
open PySem PySem.Spec PyProof.Rows L2
section
variable {X : Cx} {Γ : Nat → List Val → M Val} {gl : List PyData}
/-- the name of a built-in is the built-in's -/
def Blt (X : Cx) (x : Str) : Prop := Gl X x ∧ X.mg x = none
def b1N : B1 → Str
  | .len => "len" | .repr => "repr" | .int => "int" | .str => "str" | .sorted => "sorted" | .list => "list" | .tuple => "tuple" | .dict => "dict" | .sum => "sum" | .max => "max" | .min => "min"
  | _ => "?"
def b1Call : B1 → Bool
  | .sset => false | .lset => false | .svals => false | .bitlen => false | .neg => false
  | _ => true
theorem pe_b1 {b : B1} (hb : b1Call b = true) {r : List V → Hp → VK → Prop} (hc : CallR X (b1V b) r) (hg : Blt X (b1N b)) {e : Expr} {es : List Expr} {t : TA} {p pos : Pos} (ha : PA X (e :: es) t)
    (he : isStar e = false) (hes : (es.all fun e => !isStar e) = true) : PE X (.Call (.Name (b1N b) p) (e :: es) [] pos) (tCB r t) := by
  have s1 := star_ok he es X.env
  have s2 := back_all es X.env pos hes
  cases b with
  | len => exact pe_callB hc hg.1 hg.2 (by decide +kernel) ha (by decide) (by decide) s1 s2
  | repr => exact pe_callB hc hg.1 hg.2 (by decide +kernel) ha (by decide) (by decide) s1 s2
  | sorted => exact pe_callB hc hg.1 hg.2 (by decide +kernel) ha (by decide) (by decide) s1 s2
  | sum => exact pe_callB hc hg.1 hg.2 (by decide +kernel) ha (by decide) (by decide) s1 s2
  | max => exact pe_callB hc hg.1 hg.2 (by decide +kernel) ha (by decide) (by decide) s1 s2
  | min => exact pe_callB hc hg.1 hg.2 (by decide +kernel) ha (by decide) (by decide) s1 s2
  | int => exact pe_callTy hc hg.1 hg.2 (by decide +kernel) ha (by decide) (by decide) s1 s2
  | str => exact pe_callTy hc hg.1 hg.2 (by decide +kernel) ha (by decide) (by decide) s1 s2
  | list => exact pe_callTy hc hg.1 hg.2 (by decide +kernel) ha (by decide) (by decide) s1 s2
  | tuple => exact pe_callTy hc hg.1 hg.2 (by decide +kernel) ha (by decide) (by decide) s1 s2
  | dict => exact pe_callTy hc hg.1 hg.2 (by decide +kernel) ha (by decide) (by decide) s1 s2
  | _ => cases hb
theorem lenV_ok {K : PySem.W.Frag} {v : Val} {z : PyData} {S S' : Store} (h : lenV v S = .ok z S') {m : List Addr} {Z H : Hp} {u : V} {Q : VK} (r : Rel m Z S H) (hv : VR K m Z v u) (q : RQ m Z H S' z Q) : rLenU K [u] H Q := by
  have gen : bnd (peek v) lenD S = .ok z S' → rLenU K [u] H Q := fun h => by
    obtain ⟨x, S1, h1, h2⟩ := bnd_ok h
    obtain ⟨e, p⟩ := peek_ok (K := K) h1
    rw [e] at h2
    obtain ⟨e2, k⟩ := len_ok (K := K) h2
    rw [e2] at q
    exact k r (p r hv) q
  cases v with
  | scr ns =>
    obtain ⟨rfl, rfl⟩ := ret_ok (show ret (PyData.int ns.length) S = .ok z S' from h)
    obtain ⟨a, rfl, hs⟩ := hv
    exact .inl ⟨_, ns.length, rfl, .inl ⟨ns.map V.int, Sub.sqL r.sub hs, by rw [List.length_map]⟩, RQ.int r q⟩
  | d x => exact gen h
  | c i => exact gen h
/-- one argument, evaluated -/
theorem one_sem {K : PySem.W.Frag} {a : Ex} {env : Env} {S S1 : Store} {v : Val} {m : List Addr} {Z H : Hp} {σ : L2.St} {R : List V → Hp → Prop} (h : eval Γ gl a env S = .ok v S1) (r : Rel m Z S H) (w : ERel K m Z env σ)
    (k : ∀ u m1 Z1 H1, Nxt m Z H m1 Z1 H1 → Rel m1 Z1 S1 H1 → ERel K m1 Z1 env σ → VR K m1 Z1 v u → R [u] H1) : tCons (semE K Γ gl a) tNil σ H R :=
  semE.at_ h r w fun u m1 Z1 H1 n1 r1 w1 q1 => k u m1 Z1 H1 n1 r1 w1 q1
theorem pa_one {e : Expr} {t : TE} (h : PE X e t) (hs : isStar e = false) : PA X [e] (tCons t tNil) := pa_cons h pa_nil (star_ok hs _ _)
theorem pa_two {e e' : Expr} {t t' : TE} (h : PE X e t) (h' : PE X e' t') (hs : isStar e = false) (hs' : isStar e' = false) : PA X [e, e'] (tCons t (tCons t' tNil)) := pa_cons h (pa_one h' hs') (star_ok hs _ _)
theorem s_b1 (c : CxB X) {b : B1} (hb : b1Call b = true) (hg : Blt X (b1N b)) {e : Expr} {a : Ex} {p pos : Pos} (ha : PE X e (semE X.K Γ gl a)) (he : isStar e = false) : PE X (.Call (.Name (b1N b) p) [e] [] pos) (semE X.K Γ gl (.b1 b a)) :=
  PE.imp (pe_b1 hb (call_b1 c b) hg (pa_one ha he) he rfl) fun σ H Q ⟨env, S, v, S', m, Z, h, r, w, f⟩ => by
    obtain ⟨v1, S1, h1, h2⟩ := bnd_ok (show bnd (eval Γ gl a env) (fun v => match b with
      | .len => bnd (lenV v) dat
      | b => bnd (peek v) fun x => bnd (b1D b x) dat) S = .ok v S' from h)
    refine one_sem h1 r w fun u m1 Z1 H1 n1 r1 w1 q1 => ?_
    have gen : bnd (peek v1) (fun x => bnd (b1D b x) dat) S1 = .ok v S' → rB1 X.K b [u] H1 Q := fun h2 => by
      obtain ⟨x, S2, h3, h4⟩ := bnd_ok h2
      obtain ⟨y, S3, h5, h6⟩ := bnd_ok h4
      obtain ⟨rfl, p1⟩ := peek_ok (K := X.K) h3
      obtain ⟨rfl, k⟩ := b1_ok (K := X.K) h5 (fun e => by rw [e] at hb; cases hb) (fun e => by rw [e] at hb; cases hb) (fun e => by rw [e] at hb; cases hb) (fun e => by rw [e] at hb; cases hb) (fun e => by rw [e] at hb; cases hb)
      exact k r1 (p1 r1 q1) (f.rq h6 n1)
    cases b with
    | len =>
      obtain ⟨y, S3, h5, h6⟩ := bnd_ok (show bnd (lenV v1) dat S1 = .ok v S' from h2)
      exact lenV_ok h5 r1 q1 (f.rq h6 n1)
    | repr => exact gen h2
    | int => exact gen h2
    | str => exact gen h2
    | sorted => exact gen h2
    | list => exact gen h2
    | tuple => exact gen h2
    | dict => exact gen h2
    | sum => exact gen h2
    | max => exact gen h2
    | min => exact gen h2
    | _ => cases hb
def b2N : B2 → Str
  | .max => "max" | .min => "min" | .sum => "sum"
theorem pe_b2 {b : B2} {r : List V → Hp → VK → Prop} (hc : CallR X (b2V b) r) (hg : Blt X (b2N b)) {e : Expr} {es : List Expr} {t : TA} {p pos : Pos} (ha : PA X (e :: es) t)
    (he : isStar e = false) (hes : (es.all fun e => !isStar e) = true) : PE X (.Call (.Name (b2N b) p) (e :: es) [] pos) (tCB r t) := by
  have s1 := star_ok he es X.env
  have s2 := back_all es X.env pos hes
  cases b with
  | sum => exact pe_callB hc hg.1 hg.2 (by decide +kernel) ha (by decide) (by decide) s1 s2
  | max => exact pe_callB hc hg.1 hg.2 (by decide +kernel) ha (by decide) (by decide) s1 s2
  | min => exact pe_callB hc hg.1 hg.2 (by decide +kernel) ha (by decide) (by decide) s1 s2
theorem s_b2 (c : CxB X) {b : B2} (hg : Blt X (b2N b)) {e e' : Expr} {a a' : Ex} {p pos : Pos} (ha : PE X e (semE X.K Γ gl a)) (ha' : PE X e' (semE X.K Γ gl a')) (he : isStar e = false) (he' : isStar e' = false) :
    PE X (.Call (.Name (b2N b) p) [e, e'] [] pos) (semE X.K Γ gl (.b2 b a a')) :=
  PE.imp (pe_b2 (call_b2 c b) hg (pa_two ha ha' he he') he (by simp [he'])) fun σ H Q ⟨env, S, v, S', m, Z, h, r, w, f⟩ => by
    obtain ⟨v1, S1, h1, h2⟩ := bnd_ok (show bnd (eval Γ gl a env) (fun v => bnd (eval Γ gl a' env) fun u => bnd (peek v) fun x => bnd (own u) fun y => bnd (b2D b x y) dat) S = .ok v S' from h)
    obtain ⟨v2, S2, h3, h4⟩ := bnd_ok h2
    obtain ⟨x, S3, h5, h6⟩ := bnd_ok h4
    obtain ⟨y, S4, h7, h8⟩ := bnd_ok h6
    obtain ⟨z, S5, h9, h10⟩ := bnd_ok h8
    obtain ⟨rfl, p1⟩ := peek_ok (K := X.K) h5
    obtain ⟨rfl, k⟩ := b2_ok (K := X.K) h9
    refine semE.at_ h1 r w fun u m1 Z1 H1 n1 r1 w1 q1 => ?_
    refine semE.at_ h3 r1 w1 fun t m2 Z2 H2 n2 r2 w2 q2 => ?_
    obtain ⟨Z3, r3, n3, d3⟩ := own_ok h7 r2 q2
    have px := p1 r2 (VR.nxt n2 q1)
    have px' : PR Z3 H2 x u := by
      cases x with
      | list xs =>
        obtain ⟨p, us, e, g1, g2⟩ := px
        exact ⟨p, us, e, g1, DRs.le n3.zle _ _ g2⟩
      | dict kvs =>
        obtain ⟨p, e, ⟨ws, g1, g2⟩ | ⟨ws, g1, g2⟩⟩ := px
        · exact ⟨p, e, .inl ⟨ws, g1, DRk.le n3.zle _ _ g2⟩⟩
        · exact ⟨p, e, .inr ⟨ws, g1, DRt.le n3.zle _ _ g2⟩⟩
      | _ => exact DR.le n3.zle _ _ px
    exact k r3 px' d3 (f.rq h10 (n1.trans (n2.trans n3)))
/-! ### isinstance -/
theorem tyBoot (t : Ty) : bootBuiltins (PySem.Str.ofString (tyS t)) = some (.type (tyS t)) := by cases t <;> decide +kernel
theorem s_isi (hg : Blt X "isinstance") {t : Ty} (hg2 : Blt X (PySem.Str.ofString (tyS t))) {e : Expr} {a : Ex} {p p2 pos : Pos} (ha : PE X e (semE X.K Γ gl a)) (he : isStar e = false) :
    PE X (.Call (.Name "isinstance" p) [e, .Name (PySem.Str.ofString (tyS t)) p2] [] pos) (semE X.K Γ gl (.isi a t)) :=
  PE.imp (pe_callB (CallR.or call_isi call_isiF) hg.1 hg.2 (by decide +kernel) (pa_two ha (pe_bltn (v := .ty (tyS t)) hg2.1 hg2.2 (tyBoot t) rfl (by cases t <;> decide) (by cases t <;> decide)) he rfl) (by decide) (by decide) (star_ok he _ _) (back_all _ _ _ rfl))
    fun σ H Q ⟨env, S, v, S', m, Z, h, r, w, f⟩ => by
      obtain ⟨v1, S1, h1, h2⟩ := bnd_ok (show bnd (eval Γ gl a env) (fun v => bnd (peek v) fun x => boo (tyD t x)) S = .ok v S' from h)
      obtain ⟨x, S3, h5, h6⟩ := bnd_ok h2
      obtain ⟨rfl, p1⟩ := peek_ok (K := X.K) h5
      refine semE.at_ h1 r w fun u m1 Z1 H1 n1 r1 w1 q1 => ?_
      exact isi_ok r1 (p1 r1 q1) (f.bl h6 n1 r1)
/-! ### -x, x.bit_length() -/
theorem s_neg {e : Expr} {a : Ex} {pos : Pos} (ha : PE X e (semE X.K Γ gl a)) : PE X (.UnaryOp .USub e pos) (semE X.K Γ gl (.b1 .neg a)) :=
  PE.imp (pe_un un_neg ha) fun σ H Q ⟨env, S, v, S', m, Z, h, r, w, f⟩ => by
    obtain ⟨v1, S1, h1, h2⟩ := bnd_ok (show bnd (eval Γ gl a env) (fun v => bnd (peek v) fun x => bnd (b1D .neg x) dat) S = .ok v S' from h)
    obtain ⟨x, S3, h5, h6⟩ := bnd_ok h2
    obtain ⟨y, S4, h7, h8⟩ := bnd_ok h6
    obtain ⟨rfl, p1⟩ := peek_ok (K := X.K) h5
    refine semE.at_ h1 r w fun u m1 Z1 H1 n1 r1 w1 q1 => ?_
    cases x with
    | int i =>
      obtain ⟨rfl, rfl⟩ := ret_ok (show ret (PyData.int (-i)) S3 = .ok y S4 from h7)
      exact ⟨i, PR.int_iff.mp (p1 r1 q1), RQ.int r1 (f.rq h8 n1)⟩
    | _ => exact nomatch (show (R.no : R PyData) = .ok y S4 from h7)
theorem s_bits {e : Expr} {a : Ex} {apos pos : Pos} (ha : PE X e (semE X.K Γ gl a)) (hb : isCallE e = false) (hl : (apos.endLine == pos.line) = true) : PE X (.Call (.Attribute e "bit_length" apos) [] [] pos) (semE X.K Γ gl (.m0 .bitlen a)) :=
  PE.imp (pe_bits ha (base_ok hb _ _ _) hl) fun σ H Q ⟨env, S, v, S', m, Z, h, r, w, f⟩ => by
    obtain ⟨v1, S1, h1, h2⟩ := bnd_ok (show bnd (eval Γ gl a env) (fun v => bnd (m0V .bitlen v) dat) S = .ok v S' from h)
    obtain ⟨y, S4, h7, h8⟩ := bnd_ok h2
    refine semE.at_ h1 r w fun u m1 Z1 H1 n1 r1 w1 q1 => ?_
    cases v1 with
    | d x =>
      cases x with
      | int i =>
        obtain ⟨rfl, rfl⟩ := ret_ok (show ret (PyData.int (Builtin.Int.intBits i : Nat)) S1 = .ok y S4 from h7)
        exact ⟨i, by simpa only [VR, DR] using q1, RQ.int r1 (f.rq h8 n1)⟩
      | _ => exact nomatch (show (R.no : R PyData) = .ok y S4 from h7)
    | _ => exact nomatch (show (R.no : R PyData) = .ok y S4 from h7)
/-! ### methods -/
theorem tyV_of {K : PySem.W.Frag} {Z H : Hp} {t : Ty} {x : PyData} {u : V} (hx : PR Z H x u) (h : tyD t x = true) (ht : t = .tlist ∨ t = .tstr) : tyV K (tyS t) u H := by
  rcases ht with rfl | rfl
  · cases x with
    | list xs =>
      obtain ⟨a, us, rfl, h1, h2⟩ := hx
      exact .inl ⟨rfl, us, SqL.of h1⟩
    | _ => cases h
  · cases x with
    | str s =>
      rw [PR.str_iff] at hx
      subst hx
      rfl
    | _ => cases h
theorem isD_of {Z H : Hp} {x : PyData} {u : V} (hx : PR Z H x u) (h : tyD .tdict x = true) : ∃ a, u = .ref a ∧ IsD H a := by
  cases x with
  | dict kvs =>
    obtain ⟨a, rfl, ⟨ws, h1, _⟩ | ⟨ws, h1, _⟩⟩ := hx
    · exact ⟨a, rfl, .inl ⟨ws, h1.rd⟩⟩
    · exact ⟨a, rfl, .inr ⟨ws, h1.rd⟩⟩
  | _ => cases h
/-- a method of a dict -/
def tDM (r : V → List V → Hp → VK → Prop) (to : TE) (t : TA) : TE := fun σ H Q => to σ H fun x H1 => (∃ a, x = .ref a ∧ IsD H1 a) ∧ t σ H1 fun xs H2 => r x xs H2 Q
theorem pe_dm {o e : Expr} {es : List Expr} {to : TE} {t : TA} {name : Str} {apos cpos : Pos} {id : String} {r : V → List V → Hp → VK → Prop} (slot : Slot "dict" name id) (hty : typeOf (.builtin id) = pure (.type "method_descriptor"))
    (hm : MtR X id r) (ho : PE X o to) (ha : PA X (e :: es) t) (hb : isCallE o = false) (he : isStar e = false) (hes : (es.all fun e => !isStar e) = true) (hn : es.length < 29) (hline : (apos.endLine == cpos.line) = true) :
    PE X (.Call (.Attribute o name apos) (e :: es) [] cpos) (tDM r to t) := by
  have hs := star_ok he es X.env
  have hp := back_all es X.env cpos hes
  refine ⟨fun pins s0 σ0 H0 Q0 I0 h0 => wpAny_Call_method_late (base_ok hb _ _ _) (few_all (e :: es) _ _ (by simp [he]; simpa using hes) (by simp; omega)) hline rfl (thn (ho.run pins s0 σ0 H0 _ I0 h0) fun v s1 ⟨x, H1, I1, r1, d1, q1⟩ => ?_)⟩
  obtain ⟨a, rfl, d⟩ := d1
  cases r1
  obtain ⟨t1, t2, _⟩ := isD_at I1 d
  refine ⟨"dict", id, PySem.F.plainAttrs_dict, slot, hty, t1, t2, ?_⟩
  have run := ha.run cpos pins s1 σ0 H1 _ I1 q1
  rw [hs] at run ⊢
  refine Calls.callWith_builtin (by show (false || (backTo cpos (starEach es X.env)).any (·.1)) = false; rw [hp]; rfl) (Calls.evalArgs_plain (thn run fun us s2 ⟨vs, H2, I2, r2, q2⟩ => hm pins s2 σ0 H2 (.ref a) vs _ us Q0 I2 rfl r2 q2))
def m1N : M1 → Str
  | .append => "append" | .pop => "pop" | .extend => "extend" | .index => "index" | .join => "join" | .find => "find" | .count => "count" | .split => "split" | .get => "get"
theorem m1Ty (k : M1) : m1T k = tyS (m1Y k) := by cases k <;> rfl
/-- what the interpreter's method step says -/
theorem m1_sem {K : PySem.W.Frag} {k : M1} {a b : Ex} {env : Env} {S S' : Store} {v : Val} {m : List Addr} {Z H : Hp} {σ : L2.St} {Q : VK} {P : V → Hp → Prop} (h : eval Γ gl (.m1 k a b) env S = .ok v S') (r : Rel m Z S H) (w : ERel K m Z env σ)
    (f : Fin_ K m Z H S' v Q) (hP : ∀ Z H x u, PR Z H x u → tyD (m1Y k) x = true → P u H) :
    semE K Γ gl a σ H fun x H1 => P x H1 ∧ tCons (semE K Γ gl b) tNil σ H1 fun xs H2 => rM1 K k x xs H2 Q := by
  obtain ⟨v1, S1, h1, h2⟩ := bnd_ok (show bnd (eval Γ gl a env) (fun v => bnd (peek v) fun x => bnd (guard (tyD (m1Y k) x)) fun _ => bnd (eval Γ gl b env) fun u => bnd (own u) fun y => bnd (m1V k v y) dat) S = .ok v S' from h)
  obtain ⟨x, S2, h3, h4⟩ := bnd_ok h2
  obtain ⟨_, S3, h5, h6⟩ := bnd_ok h4
  obtain ⟨v2, S4, h7, h8⟩ := bnd_ok h6
  obtain ⟨y, S5, h9, h10⟩ := bnd_ok h8
  obtain ⟨z, S6, h11, h12⟩ := bnd_ok h10
  obtain ⟨rfl, p1⟩ := peek_ok (K := K) h3
  obtain ⟨e, rfl⟩ := guard_ok h5
  refine semE.at_ h1 r w fun u m1 Z1 H1 n1 r1 w1 q1 => ⟨hP Z1 H1 x u (p1 r1 q1) e, ?_⟩
  refine one_sem h7 r1 w1 fun t m2 Z2 H2 n2 r2 w2 q2 => ?_
  obtain ⟨Z3, r3, n3, d3⟩ := own_ok h9 r2 q2
  exact m1_ok h11 r3 (VR.nxt (n2.trans n3) q1) d3 (f.rq h12 (n1.trans (n2.trans n3)))
theorem s_m1 (hu : X.A.units + 65 < cLine) {k : M1} (hk : k ≠ .split) {o e : Expr} {a b : Ex} {apos pos : Pos} (ho : PE X o (semE X.K Γ gl a)) (he : PE X e (semE X.K Γ gl b)) (hb : isCallE o = false) (hs : isStar e = false) (hl : (apos.endLine == pos.line) = true) :
    PE X (.Call (.Attribute o (m1N k) apos) [e] [] pos) (semE X.K Γ gl (.m1 k a b)) := by
  have ha := pa_one he hs
  have fw := few_all [e] X.env pos (by simp [hs]) (by simp)
  have lst : ∀ {id : String}, m1Y k = .tlist → PlainAttrs "list" → Slot "list" (m1N k) id → typeOf (.builtin id) = pure (.type "method_descriptor") → MtR X id (rM1 X.K k) → PE X (.Call (.Attribute o (m1N k) apos) [e] [] pos) (semE X.K Γ gl (.m1 k a b)) :=
    fun ey pa slot hty hm => PE.imp (pe_bm pa slot hty hm ho ha (base_ok hb _ _ _) fw hl (star_ok hs _ _) (back_all _ _ _ rfl)) fun σ H Q ⟨env, S, v, S', m, Z, h, r, w, f⟩ =>
      m1_sem h r w f fun Z H x u p e => by rw [ey] at e; exact tyV_of (t := .tlist) p e (.inl rfl)
  have txt : ∀ {id : String}, m1Y k = .tstr → PlainAttrs "str" → Slot "str" (m1N k) id → typeOf (.builtin id) = pure (.type "method_descriptor") → MtR X id (rM1 X.K k) → PE X (.Call (.Attribute o (m1N k) apos) [e] [] pos) (semE X.K Γ gl (.m1 k a b)) :=
    fun ey pa slot hty hm => PE.imp (pe_bm pa slot hty hm ho ha (base_ok hb _ _ _) fw hl (star_ok hs _ _) (back_all _ _ _ rfl)) fun σ H Q ⟨env, S, v, S', m, Z, h, r, w, f⟩ =>
      m1_sem h r w f fun Z H x u p e => by rw [ey] at e; exact tyV_of (t := .tstr) p e (.inr rfl)
  cases k with
  | append => exact lst rfl PySem.F.plainAttrs_list PySem.F.slot_list_append PySem.F.type_list_append (mt_m1 hu .append)
  | pop => exact lst rfl PySem.F.plainAttrs_list PySem.F.slot_list_pop PySem.F.type_list_pop (mt_m1 hu .pop)
  | extend => exact lst rfl PySem.F.plainAttrs_list PySem.F.slot_list_extend PySem.F.type_list_extend (mt_m1 hu .extend)
  | index => exact lst rfl PySem.F.plainAttrs_list PySem.F.slot_list_index PySem.F.type_list_index (mt_m1 hu .index)
  | join => exact txt rfl PySem.F.plainAttrs_str PySem.F.slot_str_join PySem.F.type_str_join (mt_m1 hu .join)
  | find => exact txt rfl PySem.F.plainAttrs_str PySem.F.slot_str_find PySem.F.type_str_find (mt_m1 hu .find)
  | count => exact txt rfl PySem.F.plainAttrs_str PySem.F.slot_str_count PySem.F.type_str_count (mt_m1 hu .count)
  | split => exact absurd rfl hk
  | get => exact PE.imp (pe_dm PySem.F.slot_dict_get PySem.F.type_dict_get (mt_m1 hu .get) ho ha hb hs rfl (by simp) hl) fun σ H Q ⟨env, S, v, S', m, Z, h, r, w, f⟩ => m1_sem h r w f fun Z H x u p e => isD_of p e
theorem m0_pop {K : PySem.W.Frag} {v : Val} {z : PyData} {S S' : Store} (h : m0V .pop v S = .ok z S') {m : List Addr} {Z H : Hp} {u : V} {Q : VK} (r : Rel m Z S H) (hv : VR K m Z v u) (q : MQ m Z H S' z Q) : tyV K "list" u H ∧ rPop u [] H Q := by
  cases v with
  | c i =>
    unfold m0V at h
    simp only at h
    split at h
    · rename_i xs e
      split at h
      · rename_i t et
        cases h
        obtain ⟨a, rfl, ha, ⟨us, h1, h2⟩, hz⟩ := r.at_ e hv
        have et' : xs[xs.length - 1]? = some z := by rw [← List.getLast?_eq_getElem?]; exact et
        obtain ⟨tv, e1, e2⟩ := DRs.get h2 et'
        refine ⟨.inl ⟨rfl, us, SqL.of h1⟩, a, us, tv, rfl, rfl, h1, by rw [h2.length]; exact e1, MQ.of (o' := .l xs.dropLast) r e ha ⟨_, upd_same, h2.dropLast⟩ e2 q⟩
      · cases h
    · cases h
  | _ => exact nomatch (show (R.no : R PyData) = .ok z S' from h)
theorem s_pop {o : Expr} {a : Ex} {apos pos : Pos} (ho : PE X o (semE X.K Γ gl a)) (hb : isCallE o = false) (hl : (apos.endLine == pos.line) = true) : PE X (.Call (.Attribute o "pop" apos) [] [] pos) (semE X.K Γ gl (.m0 .pop a)) :=
  PE.imp (pe_bm0 PySem.F.plainAttrs_list PySem.F.slot_list_pop PySem.F.type_list_pop mt_pop ho (base_ok hb _ _ _) hl) fun σ H Q ⟨env, S, v, S', m, Z, h, r, w, f⟩ => by
    obtain ⟨v1, S1, h1, h2⟩ := bnd_ok (show bnd (eval Γ gl a env) (fun v => bnd (m0V .pop v) dat) S = .ok v S' from h)
    obtain ⟨y, S4, h7, h8⟩ := bnd_ok h2
    refine semE.at_ h1 r w fun u m1 Z1 H1 n1 r1 w1 q1 => m0_pop h7 r1 q1 (f.rq h8 n1)
/-- d.get(k, z) -/
theorem m2_sem {K : PySem.W.Frag} {a b c : Ex} {env : Env} {S S' : Store} {v : Val} {m : List Addr} {Z H : Hp} {σ : L2.St} {Q : VK} (h : eval Γ gl (.m2 .get a b c) env S = .ok v S') (r : Rel m Z S H) (w : ERel K m Z env σ)
    (f : Fin_ K m Z H S' v Q) : tDM rGetD2 (semE K Γ gl a) (tCons (semE K Γ gl b) (tCons (semE K Γ gl c) tNil)) σ H Q := by
  obtain ⟨v1, S1, h1, h2⟩ := bnd_ok (show bnd (eval Γ gl a env) (fun v => bnd (peek v) fun x => bnd (guard (tyD (m2Y .get) x)) fun _ => bnd (eval Γ gl b env) fun u => bnd (own u) fun y => bnd (eval Γ gl c env) fun w => bnd (own w) fun z => bnd (m2V .get v y z) dat) S = .ok v S' from h)
  obtain ⟨x, S2, h3, h4⟩ := bnd_ok h2
  obtain ⟨_, S3, h5, h6⟩ := bnd_ok h4
  obtain ⟨v2, S4, h7, h8⟩ := bnd_ok h6
  obtain ⟨y, S5, h9, h10⟩ := bnd_ok h8
  obtain ⟨v3, S6, h11, h12⟩ := bnd_ok h10
  obtain ⟨z, S7, h13, h14⟩ := bnd_ok h12
  obtain ⟨t0, S8, h15, h16⟩ := bnd_ok h14
  obtain ⟨x', S9, k1, k2⟩ := bnd_ok (show bnd (peek v1) (fun x => m2D .get x y z) S7 = .ok t0 S8 from h15)
  obtain ⟨rfl, p1⟩ := peek_ok (K := K) h3
  obtain ⟨rfl, p2⟩ := peek_ok (K := K) k1
  obtain ⟨e, rfl⟩ := guard_ok h5
  refine semE.at_ h1 r w fun u m1 Z1 H1 n1 r1 w1 q1 => ⟨isD_of (p1 r1 q1) e, ?_⟩
  refine semE.at_ h7 r1 w1 fun t m2 Z2 H2 n2 r2 w2 q2 => ?_
  obtain ⟨Z3, r3, n3, d3⟩ := own_ok h9 r2 q2
  refine semE.at_ h11 r3 (w2.nxt n3) fun t2 m4 Z4 H4 n4 r4 w4 q4 => ?_
  obtain ⟨Z5, r5, n5, d5⟩ := own_ok h13 r4 q4
  have px := p2 r5 (VR.nxt (n2.trans (n3.trans (n4.trans n5))) q1)
  have dk := DR.le (n4.trans n5).zle _ _ d3
  cases x' with
  | dict kvs =>
    obtain ⟨_, S10, k3, k4⟩ := bnd_ok (show bnd (guard (keyOk kvs y)) (fun _ => ret ((lookD kvs y).getD z)) S9 = .ok t0 S8 from k2)
    obtain ⟨e2, rfl⟩ := guard_ok k3
    obtain ⟨rfl, rfl⟩ := ret_ok k4
    have q := f.rq h16 (n1.trans (n2.trans (n3.trans (n4.trans n5))))
    obtain ⟨p, rfl, ⟨o, g, mt⟩ | ⟨e0, wr⟩⟩ := dget_of px e2 dk r5.sub
    · refine ⟨p, t, t2, rfl, rfl, .inl ⟨o, g, ?_⟩⟩
      cases e3 : lookD kvs y with
      | none =>
        rw [e3] at mt q
        rw [mt]
        exact RQ.here r5 q d5
      | some t =>
        rw [e3] at mt q
        obtain ⟨t', rfl, d⟩ := mt
        exact RQ.here r5 q d
    · rw [e0] at q
      exact ⟨p, t, t2, rfl, rfl, .inr ⟨wr, RQ.here r5 q d5⟩⟩
  | _ => exact nomatch (show (R.no : R PyData) = .ok t0 S8 from k2)
theorem s_get2 (hu : X.A.units + 65 < cLine) {o e e' : Expr} {a b c : Ex} {apos pos : Pos} (ho : PE X o (semE X.K Γ gl a)) (he : PE X e (semE X.K Γ gl b)) (he' : PE X e' (semE X.K Γ gl c)) (hb : isCallE o = false) (hs : isStar e = false) (hs' : isStar e' = false) (hl : (apos.endLine == pos.line) = true) :
    PE X (.Call (.Attribute o "get" apos) [e, e'] [] pos) (semE X.K Γ gl (.m2 .get a b c)) :=
  PE.imp (pe_dm PySem.F.slot_dict_get PySem.F.type_dict_get (mt_getD2 hu) ho (pa_two he he' hs hs') hb hs (by simp [hs']) (by simp) hl) fun σ H Q ⟨env, S, v, S', m, Z, h, r, w, f⟩ => m2_sem h r w f
/-! ### calls of the module's functions -/
def semCall (K : PySem.W.Frag) (Γ : Nat → List Val → M Val) (f : Nat) : List V → Hp → VK → Prop := fun us H Q => ∃ vs S v S' m Z, Γ f vs S = .ok v S' ∧ Rel m Z S H ∧ VRs K m Z vs us ∧ Fin_ K m Z H S' v Q
theorem pe_fn {f : Addr} {r : List V → Hp → VK → Prop} {x : Str} {e : Expr} {es : List Expr} {t : TA} {p pos : Pos} (hc : CallR X (.ref f) r) (hg : Gl X x) (hm : X.mg x = some (.ref f)) (hk : PySem.W.keepIn X.K (.ref f) = true) (ha : PA X (e :: es) t)
    (hdb : (x == ("__debug__" : Str)) = false) (he : isStar e = false) (hes : (es.all fun e => !isStar e) = true) : PE X (.Call (.Name x p) (e :: es) [] pos) (tCB r t) :=
  ⟨fun pins s0 σ0 H0 Q0 I0 h0 => wpAny_Call_Name_kw (ld_glob I0 hg hm (PySem.W.callWith_K (h₀ := X.base) I0.ok.mod.kin hk
    (thn (ha.run pos pins s0 σ0 H0 _ I0 h0) fun us s1 ⟨vs, H1, I1, r1, q1⟩ => ⟨I1.kIn, hc pins s1 σ0 H1 vs us Q0 I1 r1 q1⟩) (star_ok he es X.env) (back_all es X.env pos hes)) hdb)⟩
theorem pe_fn0 {f : Addr} {r : List V → Hp → VK → Prop} {x : Str} {p pos : Pos} (hc : CallR X (.ref f) r) (hg : Gl X x) (hm : X.mg x = some (.ref f)) (hk : PySem.W.keepIn X.K (.ref f) = true) (hdb : (x == ("__debug__" : Str)) = false) :
    PE X (.Call (.Name x p) [] [] pos) (tCB r tNil) :=
  ⟨fun pins s0 σ0 H0 Q0 I0 h0 => wpAny_Call_Name_kw (ld_glob I0 hg hm (PySem.W.callWith_K0 I0.kIn hk (hc pins s0 σ0 H0 [] [] Q0 I0 .nil h0)) hdb)⟩
theorem call_sem {K : PySem.W.Frag} {f : Nat} {as : Exs} {env : Env} {S S' : Store} {v : Val} {m : List Addr} {Z H : Hp} {σ : L2.St} {Q : VK} (h : eval Γ gl (.call f as) env S = .ok v S') (r : Rel m Z S H) (w : ERel K m Z env σ) (q : Fin_ K m Z H S' v Q) :
    tCB (semCall K Γ f) (semVs K Γ gl as) σ H Q := by
  obtain ⟨vs, S1, h1, h2⟩ := bnd_ok (show bnd (evalV Γ gl as env) (fun vs => Γ f vs) S = .ok v S' from h)
  refine ⟨env, S, vs, S1, m, Z, h1, r, w, fun us m' Z' H' n r' d => ⟨vs, S1, v, S', m', Z', h2, r', d, fun u m2 Z2 H2 n2 r2 q2 => q u m2 Z2 H2 (n.trans n2) r2 q2⟩⟩
theorem s_call {f : Addr} {k : Nat} {x : Str} {e : Expr} {es : List Expr} {as : Exs} {p pos : Pos} (hc : CallR X (.ref f) (semCall X.K Γ k)) (hg : Gl X x) (hm : X.mg x = some (.ref f)) (hk : PySem.W.keepIn X.K (.ref f) = true) (ha : PA X (e :: es) (semVs X.K Γ gl as))
    (hdb : (x == ("__debug__" : Str)) = false) (he : isStar e = false) (hes : (es.all fun e => !isStar e) = true) : PE X (.Call (.Name x p) (e :: es) [] pos) (semE X.K Γ gl (.call k as)) :=
  PE.imp (pe_fn hc hg hm hk ha hdb he hes) fun σ H Q ⟨env, S, v, S', m, Z, h, r, w, q⟩ => call_sem h r w q
/-! ### a list that will be changed -/
theorem s_mk {e : Expr} {a : Ex} (h : PE X e (semE X.K Γ gl a)) (fr : ∀ σ H (Q : VK), semE X.K Γ gl (.mk a) σ H Q → semE X.K Γ gl a σ H Q) : PE X e (semE X.K Γ gl (.mk a)) := PE.imp h fr
end
end Mp
end
section
set_option autoImplicit false
set_option linter.all false
set_option maxRecDepth 100000
set_option maxHeartbeats 4000000
/-! Mp18: what is walked. -/
namespace Mp
open PySem PySem.Spec PyProof.Rows L2
theorem beqD_eq : ∀ x y : PyData, beqD x y = true → x = y
  | .none, y, h => by cases y <;> first | rfl | cases h
  | .bool a, y, h => by
    cases y with
    | bool b => rw [beqD, beq_iff_eq] at h; rw [h]
    | _ => cases h
  | .int a, y, h => by
    cases y with
    | int b => rw [beqD, beq_iff_eq] at h; rw [h]
    | _ => cases h
  | .str a, y, h => by
    cases y with
    | str b => rw [beqD, beq_iff_eq] at h; rw [h]
    | _ => cases h
  | .list a, y, h => by
    cases y with
    | list b => rw [beqD] at h; rw [beqL_eq a b h]
    | _ => cases h
  | .tuple a, y, h => by
    cases y with
    | tuple b => rw [beqD] at h; rw [beqL_eq a b h]
    | _ => cases h
  | .dict a, y, h => by
    cases y with
    | dict b => rw [beqD] at h; rw [beqK_eq a b h]
    | _ => cases h
where
  beqL_eq : ∀ xs ys : List PyData, beqL xs ys = true → xs = ys
    | [], ys, h => by cases ys <;> first | rfl | cases h
    | x :: xs, ys, h => by
      cases ys with
      | nil => cases h
      | cons y ys =>
        rw [beqL, Bool.and_eq_true] at h
        rw [beqD_eq x y h.1, beqL_eq xs ys h.2]
  beqK_eq : ∀ xs ys : List (PyData × PyData), beqK xs ys = true → xs = ys
    | [], ys, h => by cases ys <;> first | rfl | cases h
    | (a, b) :: xs, ys, h => by
      cases ys with
      | nil => cases h
      | cons y ys =>
        obtain ⟨c, d⟩ := y
        rw [beqK, Bool.and_eq_true, Bool.and_eq_true] at h
        rw [beqD_eq a c h.1.1, beqD_eq b d h.1.2, beqK_eq xs ys h.2]
theorem stays_ok {p : Option (Nat × List PyData)} {S S' : Store} {u : Unit} (h : stays p S = .ok u S') : S' = S ∧ ∀ i xs, p = some (i, xs) → S[i]? = some (some (.l xs)) := by
  cases p with
  | none => cases h; exact ⟨rfl, fun i xs e => by cases e⟩
  | some q =>
    obtain ⟨i, xs⟩ := q
    unfold stays at h
    simp only at h
    split at h
    · rename_i ys e
      split at h
      · rename_i hb
        cases h
        refine ⟨rfl, fun j zs e2 => ?_⟩
        cases e2
        rw [beqD_eq.beqL_eq _ _ hb]
        exact e
      · cases h
    · cases h
section
variable {X : Cx} {Γ : Nat → List Val → M Val} {gl : List PyData}
/-- J walks these items, as long as the source stays as it is -/
def Wk (J : L2.It) (K : PySem.W.Frag) (m : List Addr) (Z H : Hp) (its : List Val) (src : Option (Nat × List PyData)) : Prop :=
  ∀ (i : Nat) (m' : List Addr) (Z' H' : Hp) (S' : Store), Nxt m Z H m' Z' H' → Rel m' Z' S' H' → stays src S' = .ok () S' →
    (∀ v, its[i]? = some v → J.go i H' ∧ ∀ x H'', J.yld i H' x H'' → ∃ Z'', Nxt m' Z' H' m' Z'' H'' ∧ Rel m' Z'' S' H'' ∧ VR K m' Z'' v x) ∧ (its.length ≤ i → J.stop i H')
def semI (K : PySem.W.Frag) (Γ : Nat → List Val → M Val) (gl : List PyData) (it : It) : TI := fun σ H R => ∃ env S s S' m Z, evalI Γ gl it env S = .ok s S' ∧ Rel m Z S H ∧ ERel K m Z env σ ∧
  ∀ J m' Z' H', Nxt m Z H m' Z' H' → Rel m' Z' S' H' → Wk J K m' Z' H' s.its s.src → R J H'
/-! ### by values -/
def rIt (K : PySem.W.Frag) : V → Hp → (L2.It → Hp → Prop) → Prop := fun x H R => (∃ a xs, x = .ref a ∧ SqL K H a xs ∧ R (Itl K a) H) ∨ (∃ a xs, x = .ref a ∧ SqT K H a xs ∧ R (Itt K a) H) ∨ ∃ z, x = .str z ∧ R (Its z) H
theorem it_val {tg : Expr} {pins : List (Addr × Obj)} {s : Shared} {σ : L2.St} {H : Hp} {x : V} {v : Value} {R : L2.It → Hp → Prop} {E : Value → Shared → Prop} (J : Inv X pins σ H s) (rx : RelV x v) (h : rIt X.K x H R) :
    wpAny (model X.prog X.w) X.A (pyIter v) (PIE X pins σ tg R) E s := by
  rcases h with ⟨a, xs, rfl, hs, q⟩ | ⟨a, xs, rfl, hs, q⟩ | ⟨z, rfl, q⟩
  · cases rx
    obtain ⟨its, _, pl, _⟩ := J.list hs
    exact wpAny_pyIter_list pl.isList (pi_one (tk := s.toks) J _ (turn_list a _) ⟨_, Heap.get?_push_size _ rfl, rfl, rfl⟩ q)
  · cases rx
    obtain ⟨its, _, pl, _⟩ := J.tuple hs
    exact wpAny_pyIter_tuple (show s.heap.IsTuple a its.toArray from pl) (pi_one (tk := s.toks) J _ (turn_tuple a _) ⟨_, Heap.get?_push_size _ rfl, rfl, rfl⟩ q)
  · obtain ⟨t, rfl⟩ := rx
    cases ha : z.cps.all (· < 128)
    · exact wpAny_pyIter_wide ha (pi_one (tk := s.toks) J _ (turn_str _ z t "str_iterator" (.inr rfl)) ⟨_, Heap.get?_push_size _ rfl, rfl, rfl⟩ q)
    · exact wpAny_pyIter_ascii ha (pi_one (tk := s.toks) J _ (turn_str _ z t "str_ascii_iterator" (.inl rfl)) ⟨_, Heap.get?_push_size _ rfl, rfl, rfl⟩ q)
def iVal (K : PySem.W.Frag) (te : TE) : TI := fun σ H R => te σ H fun x H1 => rIt K x H1 R
theorem pi_val {tg e : Expr} {te : TE} (he : PE X e te) : PI X tg e (iVal X.K te) :=
  ⟨fun pins s0 σ0 H0 R0 I0 h0 => thn (he.run pins s0 σ0 H0 _ I0 h0) fun v s1 ⟨x, H1, I1, r1, q1⟩ => it_val I1 r1 q1⟩
/-! ### the walks -/
section
variable {K : PySem.W.Frag} {m : List Addr} {Z H : Hp}
theorem wk_list {a : Addr} {xs : List PyData} {us : List V} (hz : Z a = some (.lst us)) (hs : DRs Z xs us) : Wk (Itl K a) K m Z H (xs.map .d) none := by
  intro i m' Z' H' S' n r _
  have e := r.sub.lst (n.zle _ _ hz)
  have d := DRs.le n.zle _ _ hs
  refine ⟨fun v hv => ?_, fun hi => ⟨us, SqL.of e, by rw [hs.length]; simpa using hi⟩⟩
  rw [List.getElem?_map] at hv
  cases hx : xs[i]? with
  | none => rw [hx] at hv; cases hv
  | some x =>
    rw [hx] at hv
    cases hv
    obtain ⟨u, e1, e2⟩ := DRs.get d hx
    exact ⟨⟨us, u, SqL.of e, e1⟩, fun y H'' ⟨eH, hy⟩ => ⟨Z', by rw [eH]; exact .refl, by rw [eH]; exact r, by have := hy us (SqL.of e); rw [e1] at this; cases this; exact e2⟩⟩
theorem wk_tup {a : Addr} {xs : List PyData} {us : List V} (hz : Z a = some (.tup us)) (hs : DRs Z xs us) : Wk (Itt K a) K m Z H (xs.map .d) none := by
  intro i m' Z' H' S' n r _
  have e := r.sub.tup (n.zle _ _ hz)
  have d := DRs.le n.zle _ _ hs
  refine ⟨fun v hv => ?_, fun hi => ⟨us, SqT.of e, by rw [hs.length]; simpa using hi⟩⟩
  rw [List.getElem?_map] at hv
  cases hx : xs[i]? with
  | none => rw [hx] at hv; cases hv
  | some x =>
    rw [hx] at hv
    cases hv
    obtain ⟨u, e1, e2⟩ := DRs.get d hx
    exact ⟨⟨us, u, SqT.of e, e1⟩, fun y H'' ⟨eH, hy⟩ => ⟨Z', by rw [eH]; exact .refl, by rw [eH]; exact r, by have := hy us (SqT.of e); rw [e1] at this; cases this; exact e2⟩⟩
theorem wk_scr {a : Addr} {ns : List Int} (hs : SqL K Z a (ns.map V.int)) : Wk (Itl K a) K m Z H (intsV ns) none := by
  intro i m' Z' H' S' n r _
  have e := Sub.sqL r.sub (SqL.le hs n.zle)
  refine ⟨fun v hv => ?_, fun hi => ⟨_, e, by rw [List.length_map]; simpa [intsV] using hi⟩⟩
  unfold intsV at hv
  rw [List.getElem?_map] at hv
  cases hx : ns[i]? with
  | none => rw [hx] at hv; cases hv
  | some x =>
    rw [hx] at hv
    cases hv
    have e1 : (ns.map V.int)[i]? = some (.int x) := by rw [List.getElem?_map, hx]; rfl
    exact ⟨⟨_, _, e, e1⟩, fun y H'' ⟨eH, hy⟩ => ⟨Z', by rw [eH]; exact .refl, by rw [eH]; exact r, by have := hy _ e; rw [e1] at this; cases this; simp only [VR, DR]⟩⟩
theorem wk_cell {j : Nat} {a : Addr} {xs : List PyData} (ha : m[j]? = some a) : Wk (Itl K a) K m Z H (xs.map .d) (some (j, xs)) := by
  intro i m' Z' H' S' n r st
  obtain ⟨_, q⟩ := stays_ok st
  have hv : VR K m' Z' (.c j) (.ref a) := VR.nxt n ⟨a, ha, rfl⟩
  obtain ⟨a', e0, _, ⟨us, e, d⟩, _⟩ := r.at_ (q j xs rfl) hv
  cases e0
  refine ⟨fun v hv => ?_, fun hi => ⟨us, SqL.of e, by rw [d.length]; simpa using hi⟩⟩
  rw [List.getElem?_map] at hv
  cases hx : xs[i]? with
  | none => rw [hx] at hv; cases hv
  | some x =>
    rw [hx] at hv
    cases hv
    obtain ⟨u, e1, e2⟩ := DRs.get d hx
    exact ⟨⟨us, u, SqL.of e, e1⟩, fun y H'' ⟨eH, hy⟩ => ⟨Z', by rw [eH]; exact .refl, by rw [eH]; exact r, by have := hy us (SqL.of e); rw [e1] at this; cases this; exact e2⟩⟩
theorem wk_str {z : Str} : Wk (Its z) K m Z H (z.cps.toList.map fun c => .d (.str ⟨#[c]⟩)) none := by
  intro i m' Z' H' S' n r _
  refine ⟨fun v hv => ?_, fun hi => by simpa [Its] using hi⟩
  rw [List.getElem?_map] at hv
  cases hx : z.cps.toList[i]? with
  | none => rw [hx] at hv; cases hv
  | some c =>
    rw [hx] at hv
    cases hv
    have hx' : z.cps[i]? = some c := by rw [← Array.getElem?_toList]; exact hx
    refine ⟨(Array.getElem?_eq_some_iff.mp hx').1, fun y H'' ⟨eH, c', h1, h2⟩ => ⟨Z', by rw [eH]; exact .refl, by rw [eH]; exact r, ?_⟩⟩
    rw [hx'] at h1
    cases h1
    simp only [VR, DR]
    exact h2
theorem wk_rng {lo : Int} {n : Nat} : Wk (Itr lo n) K m Z H (rng lo n) none := by
  intro i m' Z' H' S' nx r _
  refine ⟨fun v hv => ?_, fun hi => by simpa [rng, Itr] using hi⟩
  unfold rng at hv
  rw [List.getElem?_map] at hv
  have hi : i < n := by
    cases hx : (List.range n)[i]? with
    | none => rw [hx] at hv; cases hv
    | some j =>
      have q := (List.getElem?_eq_some_iff.mp hx).1
      rw [List.length_range] at q
      exact q
  rw [List.getElem?_range hi] at hv
  cases hv
  exact ⟨hi, fun y H'' ⟨eH, hy⟩ => ⟨Z', by rw [eH]; exact .refl, by rw [eH]; exact r, by simp only [VR, DR]; exact hy⟩⟩
theorem wk_rngC {lo c : Int} {n : Nat} : Wk (Itc lo c n) K m Z H (rngC lo c n) none := by
  intro i m' Z' H' S' nx r _
  refine ⟨fun v hv => ?_, fun hi => by simpa [rngC, Itc] using hi⟩
  unfold rngC at hv
  rw [List.getElem?_map] at hv
  have hi : i < n := by
    cases hx : (List.range n)[i]? with
    | none => rw [hx] at hv; cases hv
    | some j =>
      have q := (List.getElem?_eq_some_iff.mp hx).1
      rw [List.length_range] at q
      exact q
  rw [List.getElem?_range hi] at hv
  cases hv
  exact ⟨hi, fun y H'' ⟨eH, hy⟩ => ⟨Z', by rw [eH]; exact .refl, by rw [eH]; exact r, by simp only [VR, DR]; exact hy⟩⟩
/-- a new pair -/
theorem pair_new {S : Store} {T : Addr} {x y : PyData} {u w : V} (r : Rel m Z S H) (hT : H T = none) (hx : DR Z x u) (hy : DR Z y w) : ∃ Z', Nxt m Z H m Z' (upd H T (.tup [u, w])) ∧ Rel m Z' S (upd H T (.tup [u, w])) ∧ VR K m Z' (.d (.tuple [x, y])) (.ref T) := by
  obtain ⟨r', n'⟩ := r.newZ (o := .tup [u, w]) hT
  refine ⟨_, n', r', ?_⟩
  simp only [VR, DR]
  exact ⟨T, _, rfl, upd_same, DRs.cons (DR.le n'.zle _ _ hx) (DRs.cons (DR.le n'.zle _ _ hy) DRs.nil)⟩
theorem enum_item {xs : List PyData} {i : Nat} {v : Val} (h : (xs.zipIdx.map fun p => Val.d (.tuple [.int (p.2 : Nat), p.1]))[i]? = some v) : ∃ x, xs[i]? = some x ∧ v = .d (.tuple [.int (i : Nat), x]) := by
  rw [List.getElem?_map] at h
  cases hx : xs[i]? with
  | none =>
    have : xs.zipIdx[i]? = none := by
      rw [List.getElem?_eq_none_iff] at hx ⊢
      rw [List.length_zipIdx]; exact hx
    rw [this] at h; cases h
  | some x =>
    have : xs.zipIdx[i]? = some (x, i) := by rw [List.getElem?_zipIdx, hx]; simp
    rw [this] at h
    cases h
    exact ⟨x, rfl, rfl⟩
theorem wk_enum {a : Addr} {xs : List PyData} {src : Option (Nat × List PyData)} (at_ : ∀ m' Z' H' S', Nxt m Z H m' Z' H' → Rel m' Z' S' H' → stays src S' = .ok () S' → ∃ us, H' a = some (.lst us) ∧ DRs Z' xs us) :
    Wk (Ite K a) K m Z H (xs.zipIdx.map fun p => .d (.tuple [.int (p.2 : Nat), p.1])) src := by
  intro i m' Z' H' S' n r st
  obtain ⟨us, e, d⟩ := at_ m' Z' H' S' n r st
  refine ⟨fun v hv => ?_, fun hi => ⟨us, SqL.of e, by rw [d.length]; simpa using hi⟩⟩
  obtain ⟨x, hx, rfl⟩ := enum_item hv
  obtain ⟨u, e1, e2⟩ := DRs.get d hx
  refine ⟨⟨us, u, SqL.of e, e1⟩, fun y H'' ⟨T, z, ey, hT, eH, hz⟩ => ?_⟩
  have q := hz us (SqL.of e)
  rw [e1] at q
  cases q
  subst ey
  rw [eH]
  exact pair_new r hT (by simp only [DR]) e2
theorem zip_item {xs ys : List PyData} {i : Nat} {v : Val} (h : ((xs.zip ys).map fun p => Val.d (.tuple [p.1, p.2]))[i]? = some v) : ∃ x y, xs[i]? = some x ∧ ys[i]? = some y ∧ v = .d (.tuple [x, y]) := by
  rw [List.getElem?_map] at h
  cases hx : (xs.zip ys)[i]? with
  | none => rw [hx] at h; cases h
  | some p =>
    rw [hx] at h
    cases h
    obtain ⟨h1, h2⟩ := List.getElem?_zip_eq_some.mp hx
    exact ⟨p.1, p.2, h1, h2, rfl⟩
theorem wk_zipL {a b : Addr} {xs ys : List PyData} {us ws : List V} (ha : Z a = some (.lst us)) (hb : Z b = some (.lst ws)) (hx : DRs Z xs us) (hy : DRs Z ys ws) : Wk (Itz K a b) K m Z H ((xs.zip ys).map fun p => .d (.tuple [p.1, p.2])) none := by
  intro i m' Z' H' S' n r _
  have e := r.sub.lst (n.zle _ _ ha)
  have e' := r.sub.lst (n.zle _ _ hb)
  have d := DRs.le n.zle _ _ hx
  have d' := DRs.le n.zle _ _ hy
  refine ⟨fun v hv => ?_, fun hi => ⟨us, ws, SqL.of e, SqL.of e', by rw [hx.length, hy.length]; simp at hi; omega⟩⟩
  obtain ⟨x, y, h1, h2, rfl⟩ := zip_item hv
  obtain ⟨u, e1, e2⟩ := DRs.get d h1
  obtain ⟨w, e3, e4⟩ := DRs.get d' h2
  refine ⟨⟨us, ws, u, w, SqL.of e, SqL.of e', e1, e3⟩, fun t H'' ⟨T, z, z', ey, hT, eH, hz, hz'⟩ => ?_⟩
  have q := hz us (SqL.of e)
  rw [e1] at q
  cases q
  have q := hz' ws (SqL.of e')
  rw [e3] at q
  cases q
  subst ey
  rw [eH]
  exact pair_new r hT e2 e4
theorem wk_zipT {a b : Addr} {xs ys : List PyData} {us ws : List V} (ha : Z a = some (.tup us)) (hb : Z b = some (.tup ws)) (hx : DRs Z xs us) (hy : DRs Z ys ws) : Wk (RZ.ItzT K a b) K m Z H ((xs.zip ys).map fun p => .d (.tuple [p.1, p.2])) none := by
  intro i m' Z' H' S' n r _
  have e := r.sub.tup (n.zle _ _ ha)
  have e' := r.sub.tup (n.zle _ _ hb)
  have d := DRs.le n.zle _ _ hx
  have d' := DRs.le n.zle _ _ hy
  refine ⟨fun v hv => ?_, fun hi => ⟨us, ws, SqT.of e, SqT.of e', by rw [hx.length, hy.length]; simp at hi; omega⟩⟩
  obtain ⟨x, y, h1, h2, rfl⟩ := zip_item hv
  obtain ⟨u, e1, e2⟩ := DRs.get d h1
  obtain ⟨w, e3, e4⟩ := DRs.get d' h2
  refine ⟨⟨us, ws, u, w, SqT.of e, SqT.of e', e1, e3⟩, fun t H'' ⟨T, z, z', ey, hT, eH, hz, hz'⟩ => ?_⟩
  have q := hz us (SqT.of e)
  rw [e1] at q
  cases q
  have q := hz' ws (SqT.of e')
  rw [e3] at q
  cases q
  subst ey
  rw [eH]
  exact pair_new r hT e2 e4
theorem wk_rev {a : Addr} {xs : List PyData} {us : List V} (hz : Z a = some (.lst us)) (hs : DRs Z xs us) : Wk (Itv K a us.length) K m Z H (xs.reverse.map .d) none := by
  intro i m' Z' H' S' n r _
  have e := r.sub.lst (n.zle _ _ hz)
  have d := DRs.le n.zle _ _ hs
  refine ⟨fun v hv => ?_, fun hi => by show us.length ≤ i; rw [hs.length]; simpa using hi⟩
  rw [List.getElem?_map] at hv
  cases hx : xs.reverse[i]? with
  | none => rw [hx] at hv; cases hv
  | some x =>
    rw [hx] at hv
    cases hv
    have hi : i < xs.length := by simpa using (List.getElem?_eq_some_iff.mp hx).1
    rw [List.getElem?_reverse hi] at hx
    obtain ⟨u, e1, e2⟩ := DRs.get d hx
    rw [← hs.length] at e1 hi
    exact ⟨⟨hi, us, u, SqL.of e, e1⟩, fun y H'' ⟨eH, hy⟩ => ⟨Z', by rw [eH]; exact .refl, by rw [eH]; exact r, by have := hy us (SqL.of e); rw [e1] at this; cases this; exact e2⟩⟩
end
end
end Mp
end
section
set_option autoImplicit false
set_option linter.all false
set_option maxRecDepth 100000
set_option maxHeartbeats 4000000
/-! Mp19: the iterables. -/
namespace Mp
open PySem PySem.Spec PyProof.Rows L2
section
variable {X : Cx} {Γ : Nat → List Val → M Val} {gl : List PyData}
theorem walk_ok {K : PySem.W.Frag} {v : Val} {s : Src} {S S' : Store} (h : walkV v S = .ok s S') {m : List Addr} {Z H : Hp} {u : V} {R : L2.It → Hp → Prop} (r : Rel m Z S H) (hv : VR K m Z v u) (q : ∀ J, Wk J K m Z H s.its s.src → R J H) : S' = S ∧ rIt K u H R := by
  cases v with
  | d x =>
    cases x with
    | list xs =>
      obtain ⟨rfl, rfl⟩ := ret_ok (show ret (Src.mk (xs.map .d) none) S = .ok s S' from h)
      simp only [VR, DR] at hv
      obtain ⟨a, us, rfl, hz, hs⟩ := hv
      exact ⟨rfl, .inl ⟨a, us, rfl, SqL.of (r.sub.lst hz), q _ (wk_list hz hs)⟩⟩
    | tuple xs =>
      obtain ⟨rfl, rfl⟩ := ret_ok (show ret (Src.mk (xs.map .d) none) S = .ok s S' from h)
      simp only [VR, DR] at hv
      obtain ⟨a, us, rfl, hz, hs⟩ := hv
      exact ⟨rfl, .inr (.inl ⟨a, us, rfl, SqT.of (r.sub.tup hz), q _ (wk_tup hz hs)⟩)⟩
    | str z =>
      obtain ⟨rfl, rfl⟩ := ret_ok (show ret (Src.mk (z.cps.toList.map fun c => .d (.str ⟨#[c]⟩)) none) S = .ok s S' from h)
      simp only [VR, DR] at hv
      exact ⟨rfl, .inr (.inr ⟨z, hv, q _ wk_str⟩)⟩
    | _ => exact nomatch (show (Mp.R.no : Mp.R Src) = .ok s S' from h)
  | c i =>
    unfold walkV at h
    simp only at h
    split at h
    · rename_i xs e
      cases h
      obtain ⟨a, rfl, ha, ⟨us, h1, h2⟩, _⟩ := r.at_ e hv
      exact ⟨rfl, .inl ⟨a, us, rfl, SqL.of h1, q _ (wk_cell ha)⟩⟩
    · cases h
  | scr ns =>
    obtain ⟨rfl, rfl⟩ := ret_ok (show ret (Src.mk (intsV ns) none) S = .ok s S' from h)
    obtain ⟨a, rfl, hs⟩ := hv
    exact ⟨rfl, .inl ⟨a, _, rfl, Sub.sqL r.sub hs, q _ (wk_scr hs)⟩⟩
theorem i_val {tg e : Expr} {a : Ex} (h : PE X e (semE X.K Γ gl a)) : PI X tg e (semI X.K Γ gl (.val a)) :=
  PI.imp' (pi_val h) fun σ H R ⟨env, S, s, S', m, Z, h, r, w, q⟩ => by
    obtain ⟨v, S1, h1, h2⟩ := bnd_ok (show bnd (eval Γ gl a env) walkV S = .ok s S' from h)
    refine semE.at_ h1 r w fun u m1 Z1 H1 n1 r1 w1 q1 => ?_
    have e : S' = S1 := (walk_ok (R := fun _ _ => True) h2 r1 q1 fun _ _ => trivial).1
    subst e
    exact (walk_ok h2 r1 q1 fun J k => q J m1 Z1 H1 n1 r1 k).2
theorem in62_ok {i : Int} (h : in62 i = true) : -(2 ^ 62) ≤ i ∧ i < 2 ^ 62 := of_decide_eq_true h
theorem i_rg1 {tg e : Expr} {a : Ex} {p pos : Pos} (hg : Blt X "range") (h : PE X e (semE X.K Γ gl a)) (hs : isStar e = false) : PI X tg (.Call (.Name "range" p) [e] [] pos) (semI X.K Γ gl (.rg1 a)) :=
  PI.imp' (pi_range1 hg.1 hg.2 (pa_one h hs) (star_ok hs _ _)) fun σ H R ⟨env, S, s, S', m, Z, h, r, w, q⟩ => by
    obtain ⟨v, S1, h1, h2⟩ := bnd_ok (show bnd (eval Γ gl a env) (fun v => bnd (toI v) fun j => bnd (guard (in62 j)) fun _ => ret (Src.mk (rng 0 j.toNat) none)) S = .ok s S' from h)
    obtain ⟨j, S2, h3, h4⟩ := bnd_ok h2
    obtain ⟨_, S3, h5, h6⟩ := bnd_ok h4
    obtain ⟨rfl, rfl⟩ := toI_ok h3
    obtain ⟨e, rfl⟩ := guard_ok h5
    obtain ⟨rfl, rfl⟩ := ret_ok h6
    refine one_sem h1 r w fun u m1 Z1 H1 n1 r1 w1 q1 => ?_
    simp only [VR, DR] at q1
    obtain ⟨k1, k2⟩ := in62_ok e
    exact ⟨j, by rw [q1], k1, k2, q _ m1 Z1 H1 n1 r1 wk_rng⟩
theorem i_rg2 {tg e e' : Expr} {a b : Ex} {p pos : Pos} (hg : Blt X "range") (h : PE X e (semE X.K Γ gl a)) (h' : PE X e' (semE X.K Γ gl b)) (hs : isStar e = false) (hs' : isStar e' = false) : PI X tg (.Call (.Name "range" p) [e, e'] [] pos) (semI X.K Γ gl (.rg2 a b)) :=
  PI.imp' (pi_range2 hg.1 hg.2 (pa_two h h' hs hs') (by rw [star_ok hs, star_ok hs']; rfl) (star_ok hs' _ _)) fun σ H R ⟨env, S, s, S', m, Z, h, r, w, q⟩ => by
    obtain ⟨v, S1, h1, h2⟩ := bnd_ok (show bnd (eval Γ gl a env) (fun v => bnd (eval Γ gl b env) fun u => bnd (toI v) fun i => bnd (toI u) fun j => bnd (guard (in62 i && in62 j)) fun _ => ret (Src.mk (rng i (j - i).toNat) none)) S = .ok s S' from h)
    obtain ⟨v2, S2, h3, h4⟩ := bnd_ok h2
    obtain ⟨i, S3, h5, h6⟩ := bnd_ok h4
    obtain ⟨j, S4, h7, h8⟩ := bnd_ok h6
    obtain ⟨_, S5, h9, h10⟩ := bnd_ok h8
    obtain ⟨rfl, rfl⟩ := toI_ok h5
    obtain ⟨rfl, rfl⟩ := toI_ok h7
    obtain ⟨e, rfl⟩ := guard_ok h9
    obtain ⟨rfl, rfl⟩ := ret_ok h10
    rw [Bool.and_eq_true] at e
    obtain ⟨k1, k2⟩ := in62_ok e.1
    obtain ⟨k3, k4⟩ := in62_ok e.2
    refine semE.at_ h1 r w fun u m1 Z1 H1 n1 r1 w1 q1 => ?_
    refine one_sem h3 r1 w1 fun t m2 Z2 H2 n2 r2 w2 q2 => ?_
    simp only [VR, DR] at q1 q2
    exact ⟨i, j, by rw [q1, q2], ⟨k1, k2, k3, k4⟩, q _ m2 Z2 H2 (n1.trans n2) r2 wk_rng⟩
theorem i_rg3 {tg e e' e'' : Expr} {a b c : Ex} {p pos : Pos} (hg : Blt X "range") (h : PE X e (semE X.K Γ gl a)) (h' : PE X e' (semE X.K Γ gl b)) (h'' : PE X e'' (semE X.K Γ gl c)) (hs : isStar e = false) (hs' : isStar e' = false) (hs'' : isStar e'' = false) :
    PI X tg (.Call (.Name "range" p) [e, e', e''] [] pos) (semI X.K Γ gl (.rg3 a b c)) :=
  PI.imp' (pi_range3 hg.1 hg.2 (pa_cons h (pa_two h' h'' hs' hs'') (star_ok hs _ _)) (star_ok hs _ _) (back_all _ _ _ (by simp [hs', hs'']))) fun σ H R ⟨env, S, s, S', m, Z, h, r, w, q⟩ => by
    obtain ⟨v, S1, h1, h2⟩ := bnd_ok (show bnd (eval Γ gl a env) (fun v => bnd (eval Γ gl b env) fun u => bnd (eval Γ gl c env) fun w => bnd (toI v) fun i => bnd (toI u) fun j => bnd (toI w) fun k =>
      bnd (guard (in62 i && in62 j && decide (k = -1))) fun _ => ret (Src.mk (rngC i (-1) (i - j).toNat) none)) S = .ok s S' from h)
    obtain ⟨v2, S2, h3, h4⟩ := bnd_ok h2
    obtain ⟨v3, S3, h5, h6⟩ := bnd_ok h4
    obtain ⟨i, S4, h7, h8⟩ := bnd_ok h6
    obtain ⟨j, S5, h9, h10⟩ := bnd_ok h8
    obtain ⟨k, S6, h11, h12⟩ := bnd_ok h10
    obtain ⟨_, S7, h13, h14⟩ := bnd_ok h12
    obtain ⟨rfl, rfl⟩ := toI_ok h7
    obtain ⟨rfl, rfl⟩ := toI_ok h9
    obtain ⟨rfl, rfl⟩ := toI_ok h11
    obtain ⟨e, rfl⟩ := guard_ok h13
    obtain ⟨rfl, rfl⟩ := ret_ok h14
    rw [Bool.and_eq_true, Bool.and_eq_true] at e
    obtain ⟨k1, k2⟩ := in62_ok e.1.1
    obtain ⟨k3, k4⟩ := in62_ok e.1.2
    have k5 : k = -1 := of_decide_eq_true e.2
    subst k5
    refine semE.at_ h1 r w fun u m1 Z1 H1 n1 r1 w1 q1 => ?_
    refine semE.at_ h3 r1 w1 fun t m2 Z2 H2 n2 r2 w2 q2 => ?_
    refine one_sem h5 r2 w2 fun t3 m3 Z3 H3 n3 r3 w3 q3 => ?_
    simp only [VR, DR] at q1 q2 q3
    exact ⟨i, j, -1, _, by rw [q1, q2, q3], RgC.neg k1 k2 k3 k4, q _ m3 Z3 H3 (n1.trans (n2.trans n3)) r3 wk_rngC⟩
theorem i_en {elts : List Expr} {kk : Nat} {tpos : Pos} {e : Expr} {a : Ex} {p pos : Pos} (hg : Blt X "enumerate") (h : PE X e (semE X.K Γ gl a)) (hs : isStar e = false) : PI X (.Tuple elts kk tpos) (.Call (.Name "enumerate" p) [e] [] pos) (semI X.K Γ gl (.en a)) :=
  PI.imp' (pi_enum hg.1 hg.2 (pa_one h hs) (star_ok hs _ _)) fun σ H R ⟨env, S, s, S', m, Z, h, r, w, q⟩ => by
    obtain ⟨v, S1, h1, h2⟩ := bnd_ok (show bnd (eval Γ gl a env) enumV S = .ok s S' from h)
    obtain ⟨x, S2, h3, h4⟩ := bnd_ok h2
    obtain ⟨rfl, p1⟩ := peek_ok (K := X.K) h3
    refine one_sem h1 r w fun u m1 Z1 H1 n1 r1 w1 q1 => ?_
    cases x with
    | list xs =>
      obtain ⟨rfl, rfl⟩ := ret_ok h4
      obtain ⟨p, us, rfl, g1, g2⟩ := p1 r1 q1
      refine ⟨p, us, rfl, SqL.of g1, q _ m1 Z1 H1 n1 r1 (wk_enum fun m' Z' H' S'' n r' st => ?_)⟩
      cases v with
      | d y =>
        have hp : y = .list xs := by
          exact (ret_ok (show ret y _ = .ok _ _ from h3)).1.symm
        subst hp
        simp only [VR, DR] at q1
        obtain ⟨a', us', e1, k1, k2⟩ := q1
        cases e1
        exact ⟨us', r'.sub.lst (n.zle _ _ k1), DRs.le n.zle _ _ k2⟩
      | c i =>
        obtain ⟨_, k⟩ := stays_ok st
        obtain ⟨a', e0, _, ⟨us', e1, d⟩, _⟩ := r'.at_ (k i xs rfl) (VR.nxt n q1)
        cases e0
        exact ⟨us', e1, d⟩
      | scr ns => exact nomatch (show (Mp.R.no : Mp.R PyData) = .ok _ _ from h3)
    | _ => exact nomatch (show (Mp.R.no : Mp.R Src) = .ok s S' from h4)
theorem i_zp {elts : List Expr} {kk : Nat} {tpos : Pos} {e e' : Expr} {a b : Ex} {p pos : Pos} (hg : Blt X "zip") (h : PE X e (semE X.K Γ gl a)) (h' : PE X e' (semE X.K Γ gl b)) (hs : isStar e = false) (hs' : isStar e' = false) :
    PI X (.Tuple elts kk tpos) (.Call (.Name "zip" p) [e, e'] [] pos) (semI X.K Γ gl (.zp a b)) :=
  PI.imp' (RZ.pi_zipA hg.1 hg.2 (pa_two h h' hs hs') (star_ok hs _ _) (back_all _ _ _ (by simp [hs']))) fun σ H R ⟨env, S, s, S', m, Z, h, r, w, q⟩ => by
    obtain ⟨v, S1, h1, h2⟩ := bnd_ok (show bnd (eval Γ gl a env) (fun v => bnd (eval Γ gl b env) fun u => bnd (own v) fun x => bnd (own u) fun y => zipV x y) S = .ok s S' from h)
    obtain ⟨v2, S2, h3, h4⟩ := bnd_ok h2
    obtain ⟨x, S3, h5, h6⟩ := bnd_ok h4
    obtain ⟨y, S4, h7, h8⟩ := bnd_ok h6
    refine semE.at_ h1 r w fun u m1 Z1 H1 n1 r1 w1 q1 => ?_
    refine one_sem h3 r1 w1 fun t m2 Z2 H2 n2 r2 w2 q2 => ?_
    obtain ⟨Z3, r3, n3, d3⟩ := own_ok h5 r2 (VR.nxt n2 q1)
    obtain ⟨Z4, r4, n4, d4⟩ := own_ok h7 r3 (VR.nxt n3 q2)
    have nn := n1.trans (n2.trans (n3.trans n4))
    have d3 := DR.le n4.zle _ _ d3
    cases x with
    | list xs =>
      cases y with
      | list ys =>
        obtain ⟨rfl, rfl⟩ := ret_ok (show ret (Src.mk ((xs.zip ys).map fun p => .d (.tuple [p.1, p.2])) none) S4 = .ok s S' from h8)
        simp only [DR] at d3 d4
        obtain ⟨a1, us, rfl, k1, k2⟩ := d3
        obtain ⟨a2, ws, rfl, k3, k4⟩ := d4
        exact ⟨a1, a2, us, ws, rfl, .inl ⟨SqL.of (r4.sub.lst k1), SqL.of (r4.sub.lst k3), q _ m2 Z4 H2 nn r4 (wk_zipL k1 k3 k2 k4)⟩⟩
      | _ => exact nomatch (show (Mp.R.no : Mp.R Src) = .ok s S' from h8)
    | tuple xs =>
      cases y with
      | tuple ys =>
        obtain ⟨rfl, rfl⟩ := ret_ok (show ret (Src.mk ((xs.zip ys).map fun p => .d (.tuple [p.1, p.2])) none) S4 = .ok s S' from h8)
        simp only [DR] at d3 d4
        obtain ⟨a1, us, rfl, k1, k2⟩ := d3
        obtain ⟨a2, ws, rfl, k3, k4⟩ := d4
        exact ⟨a1, a2, us, ws, rfl, .inr ⟨SqT.of (r4.sub.tup k1), SqT.of (r4.sub.tup k3), q _ m2 Z4 H2 nn r4 (wk_zipT k1 k3 k2 k4)⟩⟩
      | _ => exact nomatch (show (Mp.R.no : Mp.R Src) = .ok s S' from h8)
    | _ => exact nomatch (show (Mp.R.no : Mp.R Src) = .ok s S' from h8)
theorem i_rv {tg e : Expr} {a : Ex} {p pos : Pos} (hg : Blt X "reversed") (h : PE X e (semE X.K Γ gl a)) (hs : isStar e = false) : PI X tg (.Call (.Name "reversed" p) [e] [] pos) (semI X.K Γ gl (.rv a)) :=
  PI.imp' (pi_reversed hg.1 hg.2 (pa_one h hs) (star_ok hs _ _)) fun σ H R ⟨env, S, s, S', m, Z, h, r, w, q⟩ => by
    obtain ⟨v, S1, h1, h2⟩ := bnd_ok (show bnd (eval Γ gl a env) (fun v => bnd (own v) revV) S = .ok s S' from h)
    obtain ⟨x, S2, h3, h4⟩ := bnd_ok h2
    refine one_sem h1 r w fun u m1 Z1 H1 n1 r1 w1 q1 => ?_
    obtain ⟨Z3, r3, n3, d3⟩ := own_ok h3 r1 q1
    cases x with
    | list xs =>
      obtain ⟨rfl, rfl⟩ := ret_ok (show ret (Src.mk (xs.reverse.map .d) none) S2 = .ok s S' from h4)
      simp only [DR] at d3
      obtain ⟨a1, us, rfl, k1, k2⟩ := d3
      exact ⟨a1, us, rfl, SqL.of (r3.sub.lst k1), q _ m1 Z3 H1 (n1.trans n3) r3 (wk_rev k1 k2)⟩
    | _ => exact nomatch (show (Mp.R.no : Mp.R Src) = .ok s S' from h4)
/-! ### targets -/
theorem setAt_ok : ∀ {is : List Nat} {xs : List PyData} {env e1 : Env} {S S' : Store}, setAt env is xs S = .ok e1 S' → S' = S ∧ is.length = xs.length
  | [], [], env, e1, S, S', h => ⟨(ret_ok (show ret env S = .ok e1 S' from h)).2, rfl⟩
  | [], _ :: _, _, e1, S, S', h => nomatch (show (Mp.R.no : Mp.R Env) = .ok e1 S' from h)
  | _ :: _, [], _, e1, S, S', h => nomatch (show (Mp.R.no : Mp.R Env) = .ok e1 S' from h)
  | i :: is, x :: xs, env, e1, S, S', h => by
    obtain ⟨h1, h2⟩ := setAt_ok (show setAt (env.set i (some (.d x))) is xs S = .ok e1 S' from h)
    exact ⟨h1, by rw [List.length_cons, List.length_cons, h2]⟩
/-- the reading of a target -/
def gT (K : PySem.W.Frag) : Tg → TG
  | .nm i => gName i
  | .tp is => gTup K is.length (is.foldr (fun i g => gCons (gName i) g) gNil)
theorem gTp_ok {K : PySem.W.Frag} {m : List Addr} {Z : Hp} {H : Hp} {Q : L2.St → Hp → Prop} : ∀ {is : List Nat} {xs : List PyData} {us : List V} {env e1 : Env} {σ : L2.St} {S S' : Store}, setAt env is xs S = .ok e1 S' → DRs Z xs us → ERel K m Z env σ → (∀ σ1, ERel K m Z e1 σ1 → (∀ vs, (∀ i ∈ is, i ∈ vs) → wipe σ1 vs = wipe σ vs) → Q σ1 H) →
    is.foldr (fun i g => gCons (gName i) g) gNil us σ H Q
  | [], [], us, env, e1, σ, S, S', h, d, w, q => by
    obtain ⟨rfl, rfl⟩ := ret_ok (show ret env S = .ok e1 S' from h)
    exact ⟨DRs.nil_iff.mp d, q σ w fun vs _ => rfl⟩
  | [], _ :: _, _, _, e1, _, S, S', h, _, _, _ => nomatch (show (Mp.R.no : Mp.R Env) = .ok e1 S' from h)
  | _ :: _, [], _, _, e1, _, S, S', h, _, _, _ => nomatch (show (Mp.R.no : Mp.R Env) = .ok e1 S' from h)
  | i :: is, x :: xs, us, env, e1, σ, S, S', h, d, w, q => by
    obtain ⟨u, r, rfl, h1, t⟩ := DRs.cons_iff.mp d
    refine ⟨u, r, rfl, ?_⟩
    refine gTp_ok (show setAt (env.set i (some (.d x))) is xs S = .ok e1 S' from h) t (w.set i (v := .d x) h1) fun σ1 w1 k => q σ1 w1 fun vs hv => ?_
    rw [k vs fun j hj => hv j (List.mem_cons_of_mem _ hj), wipe_set σ i u (hv i List.mem_cons_self)]
where
  wipe_set (σ : L2.St) (i : Nat) (u : V) : ∀ {vs : List Nat}, i ∈ vs → wipe (σ.set i (some u)) vs = wipe σ vs
    | v :: vs, h => by
      by_cases c : i = v
      · subst c
        by_cases e : i ∈ vs
        · show (wipe (σ.set i (some u)) vs).set i none = (wipe σ vs).set i none
          rw [wipe_set σ i u e]
        · show (wipe (σ.set i (some u)) vs).set i none = (wipe σ vs).set i none
          rw [wipe_out_set σ i u e, List.set_set]
      · rcases List.mem_cons.mp h with e | e
        · exact absurd e c
        · show (wipe (σ.set i (some u)) vs).set v none = (wipe σ vs).set v none
          rw [wipe_set σ i u e]
  wipe_out_set (σ : L2.St) (i : Nat) (u : V) : ∀ {vs : List Nat}, i ∉ vs → wipe (σ.set i (some u)) vs = (wipe σ vs).set i (some u)
    | [], _ => rfl
    | v :: vs, h => by
      have hv : i ≠ v := fun e => h (by rw [e]; exact List.mem_cons_self)
      have hs : i ∉ vs := fun e => h (List.mem_cons_of_mem _ e)
      show (wipe (σ.set i (some u)) vs).set v none = ((wipe σ vs).set v none).set i (some u)
      rw [wipe_out_set σ i u hs, List.set_comm _ _ hv]
def tgS : Tg → List Nat
  | .nm i => [i]
  | .tp is => is
theorem gT_ok {K : PySem.W.Frag} {t : Tg} {v : Val} {u : V} {env e1 : Env} {S S' : Store} (h : bindT t v env S = .ok e1 S') {m : List Addr} {Z H : Hp} {σ : L2.St} {Q : L2.St → Hp → Prop} (r : Rel m Z S H) (hv : VR K m Z v u) (w : ERel K m Z env σ)
    (q : ∀ σ1, ERel K m Z e1 σ1 → (∀ vs, (∀ i ∈ tgS t, i ∈ vs) → wipe σ1 vs = wipe σ vs) → Q σ1 H) : gT K t u σ H Q := by
  cases t with
  | nm i =>
    obtain ⟨rfl, rfl⟩ := ret_ok (show ret (env.set i (some v)) S = .ok e1 S' from h)
    exact q _ (w.set i hv) fun vs hs => gTp_ok.wipe_set σ i u (hs i List.mem_cons_self)
  | tp is =>
    cases v with
    | d x =>
      cases x with
      | tuple xs =>
        have h' : setAt env is xs S = .ok e1 S' := h
        simp only [VR, DR] at hv
        obtain ⟨a, us, rfl, hz, hs⟩ := hv
        exact ⟨a, us, rfl, SqT.of (r.sub.tup hz), by rw [hs.length, (setAt_ok h').2], gTp_ok h' hs w q⟩
      | _ => exact nomatch (show (Mp.R.no : Mp.R Env) = .ok e1 S' from h)
    | _ => exact nomatch (show (Mp.R.no : Mp.R Env) = .ok e1 S' from h)
theorem bindT_same {t : Tg} {v : Val} {env e1 : Env} {S S' : Store} (h : bindT t v env S = .ok e1 S') : S' = S := by
  cases t with
  | nm i => exact (ret_ok (show ret (env.set i (some v)) S = .ok e1 S' from h)).2
  | tp is =>
    cases v with
    | d x =>
      cases x with
      | tuple xs => exact (setAt_ok (show setAt env is xs S = .ok e1 S' from h)).1
      | _ => exact nomatch (show (Mp.R.no : Mp.R Env) = .ok e1 S' from h)
    | _ => exact nomatch (show (Mp.R.no : Mp.R Env) = .ok e1 S' from h)
end
end Mp
end
section
set_option autoImplicit false
set_option linter.all false
set_option maxRecDepth 100000
set_option maxHeartbeats 4000000
/-! Mp20: list comprehensions. -/
namespace Mp
open PySem PySem.Spec PyProof.Rows L2
theorem wipe_get (σ : L2.St) (i : Nat) : ∀ vs : List Nat, (wipe σ vs)[i]? = if i ∈ vs then (σ[i]?).map (fun _ => none) else σ[i]?
  | [] => by simp [wipe]
  | v :: vs => by
    show ((wipe σ vs).set v none)[i]? = _
    rw [List.getElem?_set, wipe_get σ i vs]
    by_cases c : v = i
    · subst c
      rw [if_pos rfl, if_pos List.mem_cons_self, wipe_length]
      by_cases hl : v < σ.length
      · rw [if_pos hl, List.getElem?_eq_getElem hl]; rfl
      · rw [if_neg hl, List.getElem?_eq_none (by omega)]; rfl
    · rw [if_neg c]
      by_cases e : i ∈ vs
      · rw [if_pos e, if_pos (List.mem_cons_of_mem _ e)]
      · rw [if_neg e, if_neg]
        intro h
        rcases List.mem_cons.mp h with h | h
        · exact c h.symm
        · exact e h
theorem wipe_wipe (σ : L2.St) (vs : List Nat) : wipe (wipe σ vs) vs = wipe σ vs := by
  apply List.ext_getElem?
  intro i
  rw [wipe_get, wipe_get]
  by_cases h : i ∈ vs
  · rw [if_pos h, if_pos h]
    cases σ[i]? <;> rfl
  · rw [if_neg h, if_neg h]
/-- one turn of a list comprehension -/
def lcF (Γ : Nat → List Val → M Val) (gl : List PyData) (elt : Ex) (t : Tg) (cond : Exs) (ow : List Nat) (env : Env) (v : Val) : M (Option PyData) := bnd (bindT t v (wipeE env ow)) fun e1 => bnd (evalA Γ gl cond e1) fun b =>
      if b = true then bnd (eval Γ gl elt e1) fun u => bnd (own u) fun y => ret (some y) else ret none
theorem lcL_len {p : Option (Nat × List PyData)} {f : Val → M (Option PyData)} : ∀ {vs : List Val} {acc ys : List PyData} {S S' : Store}, lcL p f vs acc S = .ok ys S' → acc.length ≤ ys.length
  | [], acc, ys, S, S', h => by
    obtain ⟨_, S1, h1, h2⟩ := bnd_ok (show bnd (stays p) (fun _ => ret acc) S = .ok ys S' from h)
    obtain ⟨rfl, rfl⟩ := ret_ok h2
    exact Nat.le_refl _
  | v :: vs, acc, ys, S, S', h => by
    obtain ⟨_, S1, h1, h2⟩ := bnd_ok (show bnd (stays p) (fun _ => bnd (f v) fun o => match o with
      | some y => lcL p f vs (acc ++ [y])
      | none => lcL p f vs acc) S = .ok ys S' from h)
    obtain ⟨o, S2, h3, h4⟩ := bnd_ok h2
    cases o with
    | none => exact lcL_len h4
    | some y =>
      have := lcL_len h4
      rw [List.length_append, List.length_singleton] at this
      omega
/-- an address that is new behind a step was new ahead of it -/
theorem Nxt.gone {m m' : List Addr} {Z Z' H H' : Hp} {S : Store} (n : Nxt m Z H m' Z' H') (r : Rel m' Z' S H') {p : Addr} (h : H' p = none) : H p = none := by
  cases e : H p with
  | none => rfl
  | some o =>
    by_cases hm : p ∈ m
    · obtain ⟨t, et⟩ := n.pre
      obtain ⟨u, hu⟩ := r.al p (by rw [et]; exact List.mem_append_left _ hm)
      rw [h] at hu; cases hu
    · rw [n.keep p o e hm] at h; cases h
theorem Rel.notm {m : List Addr} {Z H : Hp} {S : Store} (r : Rel m Z S H) {p : Addr} (h : H p = none) : p ∉ m := fun e => by
  obtain ⟨u, hu⟩ := r.al p e
  rw [h] at hu; cases hu
section
variable {Γ : Nat → List Val → M Val} {gl : List PyData} {K : PySem.W.Frag}
theorem lc_main {elt : Ex} {t : Tg} {it : It} {cond : Exs} {ow : List Nat} {env : Env} {S S1 S2 : Store} {s : Src} {ys : List PyData} {m0 : List Addr} {Z0 H0 : Hp} {σ : L2.St} {Q : VK} (h1 : evalI Γ gl it env S = .ok s S1)
    (h2 : lcL s.src (lcF Γ gl elt t cond ow env) s.its [] S1 = .ok ys S2) (hz : ys.length ≤ sizeLine) (r : Rel m0 Z0 S H0) (w : ERel K m0 Z0 env σ) (ht : ∀ i ∈ tgS t, i ∈ ow)
    (fin : ∀ m Z H D us, Nxt m0 Z0 H0 m Z H → H0 D = none → Rel m Z S2 H → H D = some (.lst us) → DRs Z ys us → Z D = none → D ∉ m → Q (.ref D) H) :
    tLc (semI K Γ gl it) (gT K t) (semBT K (evalA Γ gl cond)) (semE K Γ gl elt) ow σ H0 Q := by
  refine ⟨env, S, s, S1, m0, Z0, h1, r, w, fun J m1 Z1 H1 n1 r1 wk D hD => ?_⟩
  have w1 := w.nxt n1
  have hD0 : H0 D = none := n1.gone r1 hD
  refine ⟨fun i k H => k = s.its.length - i ∧ i ≤ s.its.length ∧ ∃ S m Z acc us, lcL s.src (lcF Γ gl elt t cond ow env) (s.its.drop i) acc S = .ok ys S2 ∧ Rel m Z S H ∧ Nxt m1 Z1 H1 m Z H ∧ H D = some (.lst us) ∧ DRs Z acc us ∧ Z D = none ∧ D ∉ m,
    ⟨_, rfl, Nat.zero_le _, S1, m1, Z1, [], [], h2, (r1.newH hD).1, (r1.newH hD).2, upd_same, DRs.nil, r1.zfree hD, r1.notm hD⟩, ?_⟩
  rintro i k H ⟨rfl, hi, S3, m, Z, acc, us, hl, r3, n3, eD, da, zD, mD⟩
  by_cases hc : i < s.its.length
  · -- a turn
    have hv : s.its[i]? = some s.its[i] := List.getElem?_eq_getElem hc
    rw [List.drop_eq_getElem_cons hc] at hl
    obtain ⟨_, S4, k1, k2⟩ := bnd_ok (show bnd (stays s.src) (fun _ => bnd (lcF Γ gl elt t cond ow env s.its[i]) fun o => match o with
      | some y => lcL s.src (lcF Γ gl elt t cond ow env) (s.its.drop (i + 1)) (acc ++ [y])
      | none => lcL s.src (lcF Γ gl elt t cond ow env) (s.its.drop (i + 1)) acc) S3 = .ok ys S2 from hl)
    obtain ⟨o, S5, k3, k4⟩ := bnd_ok k2
    have es := (stays_ok k1).1
    subst es
    obtain ⟨hgo, hy⟩ := (wk i m Z H S4 n3 r3 k1).1 _ hv
    refine .inr ⟨hgo, fun H' => (s.its.length - (i + 1) = s.its.length - (i + 1) ∧ i + 1 ≤ s.its.length ∧ ∃ S m Z acc us, lcL s.src (lcF Γ gl elt t cond ow env) (s.its.drop (i + 1)) acc S = .ok ys S2 ∧ Rel m Z S H' ∧ Nxt m1 Z1 H1 m Z H' ∧ H' D = some (.lst us) ∧ DRs Z acc us ∧ Z D = none ∧ D ∉ m),
      fun H' h => ⟨s.its.length - (i + 1), by omega, h⟩, fun x H' hx => ?_⟩
    obtain ⟨Z5, n5, r5, v5⟩ := hy x H' hx
    obtain ⟨eD5, mD5, zD5⟩ := n5.apart eD mD zD
    obtain ⟨e1, S6, k5, k6⟩ := bnd_ok (show bnd (bindT t s.its[i] (wipeE env ow)) (fun e1 => bnd (evalA Γ gl cond e1) fun b => if b = true then bnd (eval Γ gl elt e1) fun u => bnd (own u) fun y => ret (some y) else ret none) S4 = .ok o S5 from k3)
    have es := bindT_same k5
    subst es
    obtain ⟨b, S7, k7, k8⟩ := bnd_ok k6
    refine gT_ok k5 r5 v5 ((w1.nxt (n3.trans n5)).wipe ow) fun σ2 w2 hw => ⟨by rw [hw ow ht, wipe_wipe], ?_⟩
    refine ⟨e1, S6, b, S7, m, Z5, k7, r5, w2, fun m8 Z8 H8 n8 r8 => ?_⟩
    obtain ⟨eD8, mD8, zD8⟩ := n8.apart eD5 mD5 zD5
    split
    · rename_i hb
      rw [if_pos hb] at k8
      obtain ⟨u, S8, k9, k10⟩ := bnd_ok k8
      obtain ⟨y, S9, k11, k12⟩ := bnd_ok k10
      obtain ⟨rfl, rfl⟩ := ret_ok k12
      refine ⟨e1, S7, u, S8, m8, Z8, k9, r8, w2.nxt n8, fun yv m9 Z9 H9 n9 r9 v9 => ?_⟩
      obtain ⟨eD9, mD9, zD9⟩ := n9.apart eD8 mD8 zD8
      obtain ⟨Z10, r10, n10, d10⟩ := own_ok k11 r9 v9
      obtain ⟨eD10, mD10, zD10⟩ := n10.apart eD9 mD9 zD9
      have nn := n3.trans (n5.trans (n8.trans (n9.trans n10)))
      have len := lcL_len k4
      rw [List.length_append, List.length_singleton] at len
      have da' := DRs.le (n5.trans (n8.trans (n9.trans n10))).zle _ _ da
      refine ⟨us, eD9, by rw [da.length]; omega, rfl, hc, S5, m9, Z10, acc ++ [y], us ++ [yv], k4, r10.put mD10 zD10, nn.put hD, upd_same, DRs.append da' (DRs.cons d10 DRs.nil), zD10, mD10⟩
    · rename_i hb
      rw [if_neg hb] at k8
      obtain ⟨rfl, rfl⟩ := ret_ok k8
      exact ⟨rfl, hc, S5, m8, Z8, acc, us, k4, r8, n3.trans (n5.trans n8), eD8, DRs.le (n5.trans n8).zle _ _ da, zD8, mD8⟩
  · -- the end
    have ei : i = s.its.length := by omega
    rw [ei, List.drop_length] at hl
    obtain ⟨_, S4, k1, k2⟩ := bnd_ok (show bnd (stays s.src) (fun _ => ret acc) S3 = .ok ys S2 from hl)
    have es := (stays_ok k1).1
    subst es
    obtain ⟨rfl, rfl⟩ := ret_ok k2
    exact .inl ⟨(wk i m Z H _ n3 r3 k1).2 (by omega), fin m Z H D us (n1.trans n3) hD0 r3 eD da zD mD⟩
theorem lc_sem {elt : Ex} {t : Tg} {it : It} {cond : Exs} {ow : List Nat} {σ : L2.St} {H : Hp} {Q : VK} (ht : ∀ i ∈ tgS t, i ∈ ow) (h : semE K Γ gl (.lc elt t it cond ow) σ H Q) : tLc (semI K Γ gl it) (gT K t) (semBT K (evalA Γ gl cond)) (semE K Γ gl elt) ow σ H Q := by
  obtain ⟨env, S, v, S', m, Z, h, r, w, f⟩ := h
  obtain ⟨s, S1, h1, h2⟩ := bnd_ok (show bnd (evalI Γ gl it env) (fun s => bnd (lcL s.src (lcF Γ gl elt t cond ow env) s.its []) fun ys => bnd (mkL ys) dat) S = .ok v S' from h)
  obtain ⟨ys, S2, h3, h4⟩ := bnd_ok h2
  obtain ⟨z, S3, h5, h6⟩ := bnd_ok h4
  obtain ⟨rfl, rfl, hz⟩ := mkL_ok h5
  obtain ⟨rfl, rfl⟩ := ret_ok (show ret (Val.d (.list ys)) S3 = .ok v S' from h6)
  refine lc_main h1 h3 hz r w ht fun m' Z' H' D us n hD r' eD d zD mD => ?_
  refine f (.ref D) m' _ H' (n.fixZ hD zD) (r'.fixZ eD mD zD) ?_
  simp only [VR, DR]
  exact ⟨D, us, rfl, upd_same, DRs.le (Le.upd zD) _ _ d⟩
/-- a new cell behind a step -/
theorem Nxt.cell {m m' : List Addr} {Z Z' H H' : Hp} (n : Nxt m Z H m' Z' H') {p : Addr} (h : H p = none) : Nxt m Z H (m' ++ [p]) Z' H' := by
  obtain ⟨t, e⟩ := n.pre
  refine ⟨⟨t ++ [p], by rw [e, List.append_assoc]⟩, n.zle, n.keep, fun a ha => ?_, n.znew⟩
  rcases List.mem_append.mp ha with ha | ha
  · exact n.new a ha
  · rw [List.mem_singleton] at ha
    exact .inr (by rw [ha]; exact h)
/-- the list that stands at D becomes a cell -/
theorem cell_fin {ys : List PyData} {v : Val} {S2 S' : Store} {m0 : List Addr} {Z0 H0 : Hp} {Q : VK} (h : alloc (.l ys) S2 = .ok v S') (f : Fin_ K m0 Z0 H0 S' v Q) {m : List Addr} {Z H : Hp} {D : Addr} {us : List V} (n : Nxt m0 Z0 H0 m Z H) (hD : H0 D = none) (r : Rel m Z S2 H)
    (eD : H D = some (.lst us)) (d : DRs Z ys us) (zD : Z D = none) (mD : D ∉ m) : Q (.ref D) H := by
  cases (show Mp.R.ok (Val.c S2.length) (S2 ++ [some (Ob.l ys)]) = .ok v S' from h)
  refine f (.ref D) (m ++ [D]) Z H (n.cell hD) (r.cellNew (o := .l ys) ⟨us, eD, d⟩ zD mD) ⟨D, ?_, rfl⟩
  rw [List.getElem?_append_right (by rw [r.len]; exact Nat.le_refl _), r.len, Nat.sub_self]
  rfl
theorem cell_finM {kvs : List (PyData × PyData)} {v : Val} {S2 S' : Store} {m0 : List Addr} {Z0 H0 : Hp} {Q : VK} (h : alloc (.m kvs) S2 = .ok v S') (f : Fin_ K m0 Z0 H0 S' v Q) {m : List Addr} {Z H : Hp} {D : Addr} (n : Nxt m0 Z0 H0 m Z H) (hD : H0 D = none) (r : Rel m Z S2 H)
    (o : OR Z (.m kvs) H D) (zD : Z D = none) (mD : D ∉ m) : Q (.ref D) H := by
  cases (show Mp.R.ok (Val.c S2.length) (S2 ++ [some (Ob.m kvs)]) = .ok v S' from h)
  refine f (.ref D) (m ++ [D]) Z H (n.cell hD) (r.cellNew (o := .m kvs) o zD mD) ⟨D, ?_, rfl⟩
  rw [List.getElem?_append_right (by rw [r.len]; exact Nat.le_refl _), r.len, Nat.sub_self]
  rfl
/-- mk of a value -/
theorem mk_ok {e : Ex} {env : Env} {S S' : Store} {v : Val} (h : eval Γ gl (.mk e) env S = .ok v S') : ∃ S1, (∃ xs, eval Γ gl e env S = .ok (.d (.list xs)) S1 ∧ alloc (.l xs) S1 = .ok v S') ∨ ∃ kvs, eval Γ gl e env S = .ok (.d (.dict kvs)) S1 ∧ alloc (.m kvs) S1 = .ok v S' := by
  obtain ⟨u, S1, h1, h2⟩ := bnd_ok (show bnd (eval Γ gl e env) (fun v => match v with
    | .d (.list xs) => alloc (.l xs)
    | .d (.dict kvs) => alloc (.m kvs)
    | _ => no) S = .ok v S' from h)
  cases u with
  | d x =>
    cases x with
    | list xs => exact ⟨S1, .inl ⟨xs, h1, h2⟩⟩
    | dict kvs => exact ⟨S1, .inr ⟨kvs, h1, h2⟩⟩
    | _ => exact nomatch (show (Mp.R.no : Mp.R Val) = .ok v S' from h2)
  | _ => exact nomatch (show (Mp.R.no : Mp.R Val) = .ok v S' from h2)
theorem lc_mk {elt : Ex} {t : Tg} {it : It} {cond : Exs} {ow : List Nat} {σ : L2.St} {H : Hp} {Q : VK} (ht : ∀ i ∈ tgS t, i ∈ ow) (h : semE K Γ gl (.mk (.lc elt t it cond ow)) σ H Q) : tLc (semI K Γ gl it) (gT K t) (semBT K (evalA Γ gl cond)) (semE K Γ gl elt) ow σ H Q := by
  obtain ⟨env, S, v, S', m, Z, h, r, w, f⟩ := h
  obtain ⟨S0, ⟨xs, g, al⟩ | ⟨kvs, g, _⟩⟩ := mk_ok h
  · obtain ⟨s, S1, h1, h2⟩ := bnd_ok (show bnd (evalI Γ gl it env) (fun s => bnd (lcL s.src (lcF Γ gl elt t cond ow env) s.its []) fun ys => bnd (mkL ys) dat) S = .ok _ S0 from g)
    obtain ⟨ys, S2, h3, h4⟩ := bnd_ok h2
    obtain ⟨z, S3, h5, h6⟩ := bnd_ok h4
    obtain ⟨rfl, rfl, hz⟩ := mkL_ok h5
    obtain ⟨e, rfl⟩ := ret_ok (show ret (Val.d (.list ys)) S3 = .ok _ S0 from h6)
    cases e
    exact lc_main h1 h3 hz r w ht fun m' Z' H' D us n hD r' eD d zD mD => cell_fin al f n hD r' eD d zD mD
  · obtain ⟨s, S1, h1, h2⟩ := bnd_ok (show bnd (evalI Γ gl it env) (fun s => bnd (lcL s.src (lcF Γ gl elt t cond ow env) s.its []) fun ys => bnd (mkL ys) dat) S = .ok _ S0 from g)
    obtain ⟨ys, S2, h3, h4⟩ := bnd_ok h2
    obtain ⟨z, S3, h5, h6⟩ := bnd_ok h4
    obtain ⟨rfl, rfl, hz⟩ := mkL_ok h5
    obtain ⟨e, _⟩ := ret_ok (show ret (Val.d (.list ys)) S3 = .ok _ S0 from h6)
    cases e
end
end Mp
end
section
set_option autoImplicit false
set_option linter.all false
set_option maxRecDepth 100000
set_option maxHeartbeats 4000000
/-! Mp21: statements. -/
namespace Mp
open PySem PySem.Spec PyProof.Rows L2
section
variable {K : PySem.W.Frag} {Γ : Nat → List Val → M Val} {gl : List PyData}
/-- what is wanted behind a statement -/
def FinS (K : PySem.W.Frag) (m : List Addr) (Z H : Hp) (S' : Store) (fl : Fl) (D : Ends) : Prop := ∀ m' Z' H', Nxt m Z H m' Z' H' → Rel m' Z' S' H' → match fl with
  | .nx e => ∀ σ', ERel K m' Z' e σ' → D.nx σ' H'
  | .br e => ∀ σ', ERel K m' Z' e σ' → D.bk σ' H'
  | .ct e => ∀ σ', ERel K m' Z' e σ' → D.ct σ' H'
  | .rt v => ∀ u, VR K m' Z' v u → D.rt u H'
def semS (K : PySem.W.Frag) (Γ : Nat → List Val → M Val) (gl : List PyData) (s : Sm) : TS := fun D σ H => ∃ env S fl S' m Z, exec Γ gl s env S = .ok fl S' ∧ Rel m Z S H ∧ ERel K m Z env σ ∧ FinS K m Z H S' fl D
def semSs (K : PySem.W.Frag) (Γ : Nat → List Val → M Val) (gl : List PyData) (s : Sms) : TS := fun D σ H => ∃ env S fl S' m Z, execs Γ gl s env S = .ok fl S' ∧ Rel m Z S H ∧ ERel K m Z env σ ∧ FinS K m Z H S' fl D
theorem FinS.trans {m m1 : List Addr} {Z Z1 H H1 : Hp} {S' : Store} {fl : Fl} {D : Ends} (f : FinS K m Z H S' fl D) (n : Nxt m Z H m1 Z1 H1) : FinS K m1 Z1 H1 S' fl D := fun m' Z' H' n' r' => f m' Z' H' (n.trans n') r'
theorem FinS.here {m m1 : List Addr} {Z Z1 H H1 : Hp} {S' : Store} {e : Env} {D : Ends} (f : FinS K m Z H S' (.nx e) D) (n : Nxt m Z H m1 Z1 H1) (r : Rel m1 Z1 S' H1) {σ : L2.St} (w : ERel K m1 Z1 e σ) : D.nx σ H1 := f m1 Z1 H1 n r σ w
end
section
variable {X : Cx} {Γ : Nat → List Val → M Val} {gl : List PyData}
theorem PS.imp {st : Stmt} {t t' : TS} (h : PS X st t) (w : ∀ D σ H, t' D σ H → t D σ H) : PS X st t' := ⟨fun pins s σ H D I q => h.run pins s σ H D I (w D σ H q)⟩
theorem PSs.imp {st : List Stmt} {t t' : TS} (h : PSs X st t) (w : ∀ D σ H, t' D σ H → t D σ H) : PSs X st t' := ⟨fun pins s σ H D I q => h.run pins s σ H D I (w D σ H q)⟩
theorem z_nil : PSs X [] (semSs X.K Γ gl .nil) := PSs.imp pss_nil fun D σ H ⟨env, S, fl, S', m, Z, h, r, w, f⟩ => by
  obtain ⟨rfl, rfl⟩ := ret_ok (show ret (Fl.nx env) S = .ok fl S' from h)
  exact f.here .refl r w
theorem z_cons {st : Stmt} {sts : List Stmt} {s : Sm} {ss : Sms} (h1 : PS X st (semS X.K Γ gl s)) (h2 : PSs X sts (semSs X.K Γ gl ss)) : PSs X (st :: sts) (semSs X.K Γ gl (.cons s ss)) :=
  PSs.imp (pss_cons h1 h2) fun D σ H ⟨env, S, fl, S', m, Z, h, r, w, f⟩ => by
    obtain ⟨fl1, S1, k1, k2⟩ := bnd_ok (show bnd (exec Γ gl s env) (fun fl => match fl with
      | .nx e => execs Γ gl ss e
      | fl => ret fl) S = .ok fl S' from h)
    refine ⟨env, S, fl1, S1, m, Z, k1, r, w, ?_⟩
    intro m' Z' H' n r'
    cases fl1 with
    | nx e =>
      intro σ' w'
      exact ⟨e, S1, fl, S', m', Z', k2, r', w', f.trans n⟩
    | br e =>
      obtain ⟨rfl, rfl⟩ := ret_ok (show ret (Fl.br e) S1 = .ok fl S' from k2)
      exact f m' Z' H' n r'
    | ct e =>
      obtain ⟨rfl, rfl⟩ := ret_ok (show ret (Fl.ct e) S1 = .ok fl S' from k2)
      exact f m' Z' H' n r'
    | rt v =>
      obtain ⟨rfl, rfl⟩ := ret_ok (show ret (Fl.rt v) S1 = .ok fl S' from k2)
      exact f m' Z' H' n r'
theorem z_pass {pos : Pos} : PS X (.Pass pos) (semS X.K Γ gl .pass) := PS.imp ps_pass fun D σ H ⟨env, S, fl, S', m, Z, h, r, w, f⟩ => by
  obtain ⟨rfl, rfl⟩ := ret_ok (show ret (Fl.nx env) S = .ok fl S' from h)
  exact f.here .refl r w
theorem z_brk {pos : Pos} : PS X (.Break pos) (semS X.K Γ gl .brk) := PS.imp ps_break fun D σ H ⟨env, S, fl, S', m, Z, h, r, w, f⟩ => by
  obtain ⟨rfl, rfl⟩ := ret_ok (show ret (Fl.br env) S = .ok fl S' from h)
  exact f m Z H .refl r σ w
theorem z_cnt {pos : Pos} : PS X (.Continue pos) (semS X.K Γ gl .cnt) := PS.imp ps_continue fun D σ H ⟨env, S, fl, S', m, Z, h, r, w, f⟩ => by
  obtain ⟨rfl, rfl⟩ := ret_ok (show ret (Fl.ct env) S = .ok fl S' from h)
  exact f m Z H .refl r σ w
theorem z_rtn {e : Expr} {a : Ex} {pos : Pos} (h : PE X e (semE X.K Γ gl a)) : PS X (.Return (some e) pos) (semS X.K Γ gl (.rtn a)) := PS.imp (ps_ret h) fun D σ H ⟨env, S, fl, S', m, Z, h, r, w, f⟩ => by
  obtain ⟨v, S1, h1, h2⟩ := bnd_ok (show bnd (eval Γ gl a env) (fun v => ret (Fl.rt v)) S = .ok fl S' from h)
  obtain ⟨rfl, rfl⟩ := ret_ok h2
  exact semE.at_ h1 r w fun u m1 Z1 H1 n1 r1 w1 q1 => f m1 Z1 H1 n1 r1 u q1
theorem z_rse {st : Stmt} {k : Nat} {a : Ex} : PS X st (semS X.K Γ gl (.rse k a)) := PS.imp ps_never fun D σ H ⟨env, S, fl, S', m, Z, h, r, w, f⟩ => by
  obtain ⟨v, S1, h1, h2⟩ := bnd_ok (show bnd (eval Γ gl a env) (fun v => bnd (own v) fun x => fun S => .ex k x S) S = .ok fl S' from h)
  obtain ⟨x, S2, h3, h4⟩ := bnd_ok h2
  cases h4
/-! ### expressions as statements, names -/
def isComp : Expr → Bool
  | .ListComp _ _ _ _ => true
  | .SetComp _ _ _ _ => true
  | .DictComp _ _ _ _ _ => true
  | _ => false
theorem swaps_ok {e : Expr} (h : isComp e = false) (t : Option Expr) (n : Nat) (env : PySem.Env) : swapsWith e t n env = pure false := by
  cases e <;> first | rfl | (cases h)
theorem z_ex {e : Expr} {a : Ex} {pos : Pos} (h : PE X e (semE X.K Γ gl a)) (hc : isComp e = false) : PS X (.Expr e pos) (semS X.K Γ gl (.ex a)) := PS.imp (ps_expr h (swaps_ok hc _ _ _)) fun D σ H ⟨env, S, fl, S', m, Z, h, r, w, f⟩ => by
  obtain ⟨v, S1, h1, h2⟩ := bnd_ok (show bnd (eval Γ gl a env) (fun _ => ret (Fl.nx env)) S = .ok fl S' from h)
  obtain ⟨rfl, rfl⟩ := ret_ok h2
  exact semE.at_ h1 r w fun u m1 Z1 H1 n1 r1 w1 q1 => f.here n1 r1 w1
theorem asg_sem {t : Tg} {a : Ex} {D : Ends} {σ : L2.St} {H : Hp} (h : semS X.K Γ gl (.asg t a) D σ H) : tAsg (semE X.K Γ gl a) (gT X.K t) D σ H := by
  obtain ⟨env, S, fl, S', m, Z, h, r, w, f⟩ := h
  obtain ⟨v, S1, h1, h2⟩ := bnd_ok (show bnd (eval Γ gl a env) (fun v => bnd (bindT t v env) fun e1 => ret (Fl.nx e1)) S = .ok fl S' from h)
  obtain ⟨e1, S2, h3, h4⟩ := bnd_ok h2
  obtain ⟨rfl, rfl⟩ := ret_ok h4
  have es := bindT_same h3
  subst es
  exact semE.at_ h1 r w fun u m1 Z1 H1 n1 r1 w1 q1 => gT_ok h3 r1 q1 w1 fun σ1 w2 _ => f.here n1 r1 w2
theorem z_asgN {i : Nat} {x : Str} {e : Expr} {a : Ex} {pos pos' : Pos} (hN : X.N.Nodup) (hi : X.N[i]? = some x) (hx : Loc X.env.scope x) (hf : X.fn x = true ∨ X.env.scope.names.lookup x = some .local) (h : PE X e (semE X.K Γ gl a))
    (hs : swapsWith e (some (.Name x pos')) pos.line X.env = pure false) : PS X (.Assign [.Name x pos'] e pos) (semS X.K Γ gl (.asg (.nm i) a)) := PS.imp (ps_set hN hi hx h hs hf) fun D σ H q => asg_sem q
/-- the names of a target stand at these slots -/
def TgOk (X : Cx) (es : List Expr) (is : List Nat) : Prop := Paired (fun e i => ∃ x p, e = Expr.Name x p ∧ X.N[i]? = some x ∧ Loc X.env.scope x ∧ (X.fn x = true ∨ X.env.scope.names.lookup x = some .local)) es is
theorem assignEach_names {es : List Expr} {is : List Nat} (h : TgOk X es is) : assignEach es X.env = es.map fun e => (false, assign e X.env) := by
  unfold TgOk at h
  induction h with
  | nil => rfl
  | cons h t ih =>
    obtain ⟨x, p, rfl, _⟩ := h
    show (false, assign (.Name x p) X.env) :: assignEach _ X.env = _
    rw [ih]
    rfl
theorem pgs_names (hN : X.N.Nodup) : ∀ {es : List Expr} {is : List Nat}, TgOk X es is → PGs X es (is.foldr (fun i g => gCons (gName i) g) gNil)
  | _, _, .nil => pgs_nil
  | _, _, .cons h t => by
    obtain ⟨x, p, rfl, h1, h2, h3⟩ := h
    exact pgs_cons (pg_name hN h1 h2 h3) (pgs_names hN t) rfl
theorem pg_tp (hc : X.calm = true) (hN : X.N.Nodup) {es : List Expr} {is : List Nat} {k : Nat} {pos : Pos} (h : TgOk X es is) : PG X (.Tuple es k pos) (gT X.K (.tp is)) := by
  have len : es.length = is.length := by
    unfold TgOk at h
    clear hc hN
    induction h with
    | nil => rfl
    | cons _ _ ih => rw [List.length_cons, List.length_cons, ih]
  refine pg_tup hc (pgs_names hN h) (by rw [assignEach_names h, List.length_map, len]) ?_
  rw [assignEach_names h, List.findIdx?_eq_none_iff]
  intro x hx
  obtain ⟨e, _, rfl⟩ := List.mem_map.mp hx
  rfl
def isTupE : Expr → Bool
  | .Tuple _ _ _ => true
  | _ => false
theorem sole_ok {e : Expr} (h : isComp e = false) (t : Expr) (n : Nat) (env : PySem.Env) : swapsWithSole [t] e n env = pure false := swaps_ok h _ _ _
theorem swapped_ok {e : Expr} (h : isTupE e = false) (t : Expr) (env : PySem.Env) : swappedStores [t] e env = pure none := by
  unfold swappedStores
  cases e <;> first | (cases t <;> rfl) | (cases h)
theorem z_asgT (hc : X.calm = true) (hN : X.N.Nodup) {is : List Nat} {ts : List Expr} {k : Nat} {e : Expr} {a : Ex} {pos tpos : Pos} (ht : TgOk X ts is) (h : PE X e (semE X.K Γ gl a)) (he : isComp e = false)
    (hs : swappedStores [.Tuple ts k tpos] e X.env = pure none) : PS X (.Assign [.Tuple ts k tpos] e pos) (semS X.K Γ gl (.asg (.tp is) a)) :=
  PS.imp (ps_asg h (pg_tp hc hN ht) (sole_ok he _ _ _) hs rfl) fun D σ H q => asg_sem q
/-! ### several at once -/
theorem setVs_ok {K : PySem.W.Frag} {m : List Addr} {Z : Hp} {H : Hp} {Q : L2.St → Hp → Prop} : ∀ {is : List Nat} {vs : List Val} {us : List V} {env : Env} {σ : L2.St}, vs.length = is.length → VRs K m Z vs us → ERel K m Z env σ → (∀ σ1, ERel K m Z (setVs env is vs) σ1 → Q σ1 H) →
    is.foldr (fun i g => gCons (gName i) g) gNil us σ H Q
  | [], [], us, env, σ, _, d, w, q => by
    cases d
    exact ⟨rfl, q σ w⟩
  | i :: is, v :: vs, us, env, σ, e, d, w, q => by
    cases d with
    | cons h t => exact ⟨_, _, rfl, setVs_ok (by simpa using e) t (w.set i h) q⟩
  | [], _ :: _, _, _, _, e, _, _, _ => by simp at e
  | _ :: _, [], _, _, _, e, _, _, _ => by simp at e
theorem par_ok {is : List Nat} {as : Exs} {env : Env} {S S' : Store} {fl : Fl} (h : exec Γ gl (.par is as) env S = .ok fl S') : ∃ vs, evalV Γ gl as env S = .ok vs S' ∧ vs.length = is.length ∧ vs.length ≤ 1000 ∧ fl = .nx (setVs env is vs) := by
  obtain ⟨vs, S1, h1, h2⟩ := bnd_ok (show bnd (evalV Γ gl as env) (fun vs => bnd (guard (decide (vs.length = is.length ∧ vs.length ≤ 1000))) fun _ => ret (Fl.nx (setVs env is vs))) S = .ok fl S' from h)
  obtain ⟨_, S2, h3, h4⟩ := bnd_ok h2
  obtain ⟨e, rfl⟩ := guard_ok h3
  obtain ⟨rfl, rfl⟩ := ret_ok h4
  have e := of_decide_eq_true e
  exact ⟨vs, h1, e.1, e.2, rfl⟩
theorem VRs.len {K : PySem.W.Frag} {m : List Addr} {Z : Hp} : ∀ {vs : List Val} {us : List V}, VRs K m Z vs us → us.length = vs.length
  | _, _, .nil => rfl
  | _, _, .cons _ t => by rw [List.length_cons, List.length_cons, VRs.len t]
theorem z_par (hc : X.calm = true) (hN : X.N.Nodup) {is : List Nat} {ts es : List Expr} {k k2 : Nat} {as : Exs} {pos tpos epos : Pos} (ht : TgOk X ts is) (h : PA X es (semVs X.K Γ gl as))
    (hs : swappedStores [.Tuple ts k tpos] (.Tuple es k2 epos) X.env = pure none) : PS X (.Assign [.Tuple ts k tpos] (.Tuple es k2 epos) pos) (semS X.K Γ gl (.par is as)) :=
  PS.imp (ps_asg (pe_tup h) (pg_tp hc hN ht) (sole_ok rfl _ _ _) hs rfl) fun D σ H ⟨env, S, fl, S', m, Z, h, r, w, f⟩ => by
    obtain ⟨vs, h1, h2, h3, rfl⟩ := par_ok h
    refine ⟨env, S, vs, S', m, Z, h1, r, w, fun us m' Z' H' n r' d => ⟨by rw [d.len, sizeLine_eq]; omega, fun p hp => ?_⟩⟩
    obtain ⟨r2, n2⟩ := r'.newH (o := .tup us) hp
    refine ⟨p, us, rfl, SqT.of upd_same, by rw [d.len, h2], ?_⟩
    exact setVs_ok h2 (VRs.nxt n2 d) ((w.nxt n).nxt n2) fun σ1 w1 => f.here (n.trans n2) r2 w1
theorem z_par2 (hc : X.calm = true) (hN : X.N.Nodup) {i j : Nat} {x y : Str} {a b : Expr} {k k2 : Nat} {as : Exs} {px py pos tpos epos : Pos} (hi : X.N[i]? = some x) (hj : X.N[j]? = some y) (hij : i ≠ j)
    (hx : X.env.scope.names.lookup x = some .local) (hy : X.env.scope.names.lookup y = some .local) (h : PA X [a, b] (semVs X.K Γ gl as))
    (hs : swappedStores [.Tuple [.Name x px, .Name y py] k tpos] (.Tuple [a, b] k2 epos) X.env = pure (some [x, y])) : PS X (.Assign [.Tuple [.Name x px, .Name y py] k tpos] (.Tuple [a, b] k2 epos) pos) (semS X.K Γ gl (.par [i, j] as)) :=
  PS.imp (ps_par hc hN hi hj hij hx hy h hs rfl) fun D σ H ⟨env, S, fl, S', m, Z, h, r, w, f⟩ => by
    obtain ⟨vs, h1, h2, h3, rfl⟩ := par_ok h
    refine ⟨env, S, vs, S', m, Z, h1, r, w, fun us m' Z' H' n r' d => ?_⟩
    cases d with
    | nil => simp at h2
    | @cons v u vs us d1 d =>
      cases d with
      | nil => simp at h2
      | @cons v2 u2 vs us d2 d =>
        cases d with
        | cons _ _ => simp at h2
        | nil => exact ⟨u, u2, rfl, f.here n r' (((w.nxt n).set i d1).set j d2)⟩
theorem z_par3 (hc : X.calm = true) (hN : X.N.Nodup) {i j l : Nat} {x y z : Str} {a b c : Expr} {k k2 : Nat} {as : Exs} {px py pz pos tpos epos : Pos} (hi : X.N[i]? = some x) (hj : X.N[j]? = some y) (hl : X.N[l]? = some z) (hij : i ≠ j) (hil : i ≠ l) (hjl : j ≠ l)
    (hx : X.env.scope.names.lookup x = some .local) (hy : X.env.scope.names.lookup y = some .local) (hz : X.env.scope.names.lookup z = some .local) (h : PA X [a, b, c] (semVs X.K Γ gl as))
    (hs : swappedStores [.Tuple [.Name x px, .Name y py, .Name z pz] k tpos] (.Tuple [a, b, c] k2 epos) X.env = pure (some [x, y, z])) :
    PS X (.Assign [.Tuple [.Name x px, .Name y py, .Name z pz] k tpos] (.Tuple [a, b, c] k2 epos) pos) (semS X.K Γ gl (.par [i, j, l] as)) :=
  PS.imp (ps_par3 hc hN hi hj hl hij hil hjl hx hy hz h hs rfl) fun D σ H ⟨env, S, fl, S', m, Z, h, r, w, f⟩ => by
    obtain ⟨vs, h1, h2, h3, rfl⟩ := par_ok h
    refine ⟨env, S, vs, S', m, Z, h1, r, w, fun us m' Z' H' n r' d => ?_⟩
    cases d with
    | nil => simp at h2
    | @cons v u vs us d1 d =>
      cases d with
      | nil => simp at h2
      | @cons v2 u2 vs us d2 d =>
        cases d with
        | nil => simp at h2
        | @cons v3 u3 vs us d3 d =>
          cases d with
          | cons _ _ => simp at h2
          | nil => exact ⟨u, u2, u3, rfl, f.here n r' ((((w.nxt n).set i d1).set j d2).set l d3)⟩
/-! ### o[i] = e -/
theorem assignSub_ok {i : Expr} (h : isSlice i = false) (o : Expr) (pos : Pos) (env : PySem.Env) (v : Value) : assign (.Subscript o i pos) env v = (do
      let ov ← holding [v] (PySem.eval o env)
      let iv ← holding [v, ov] (PySem.eval i env)
      standAt pos
      holding [v, ov, iv] (setItem ov iv v)
      release [v, ov, iv] []) := by
  cases i <;> first | rfl | (cases h)
theorem z_setI (hu : X.A.units + 65 < cLine) {o i e : Expr} {a b c : Ex} {pos spos : Pos} (ho : PE X o (semE X.K Γ gl a)) (hi : PE X i (semE X.K Γ gl b)) (he : PE X e (semE X.K Γ gl c)) (hsl : isSlice i = false) (hcp : isComp e = false) :
    PS X (.Assign [.Subscript o i spos] e pos) (semS X.K Γ gl (.setI a b c)) :=
  PS.imp (ps_asg he (pg_sub ho hi (set_u hu) (assignSub_ok hsl o spos X.env)) (sole_ok hcp _ _ _) (by unfold swappedStores; cases e <;> rfl) rfl) fun D σ H ⟨env, S, fl, S', m, Z, h, r, w, f⟩ => by
    obtain ⟨v, S1, h1, h2⟩ := bnd_ok (show bnd (eval Γ gl c env) (fun v => bnd (own v) fun y => bnd (eval Γ gl a env) fun w => bnd (eval Γ gl b env) fun u => bnd (own u) fun k => bnd (setV w k y) fun _ => ret (Fl.nx env)) S = .ok fl S' from h)
    obtain ⟨y, S2, h3, h4⟩ := bnd_ok h2
    obtain ⟨v2, S3, h5, h6⟩ := bnd_ok h4
    obtain ⟨v3, S4, h7, h8⟩ := bnd_ok h6
    obtain ⟨k, S5, h9, h10⟩ := bnd_ok h8
    obtain ⟨⟨⟩, S6, h11, h12⟩ := bnd_ok h10
    obtain ⟨rfl, rfl⟩ := ret_ok h12
    refine semE.at_ h1 r w fun u m1 Z1 H1 n1 r1 w1 q1 => ?_
    obtain ⟨Z2, r2, n2, d2⟩ := own_ok h3 r1 q1
    refine semE.at_ h5 r2 (w1.nxt n2) fun u3 m3 Z3 H3 n3 r3 w3 q3 => ?_
    refine semE.at_ h7 r3 w3 fun u4 m4 Z4 H4 n4 r4 w4 q4 => ?_
    obtain ⟨Z5, r5, n5, d5⟩ := own_ok h9 r4 q4
    refine setV_ok h11 r5 (VR.nxt (n4.trans n5) q3) d5 (DR.le (n3.trans (n4.trans n5)).zle _ _ d2) fun H' n6 r6 => ?_
    exact f.here (n1.trans (n2.trans (n3.trans (n4.trans (n5.trans n6))))) r6 ((w4.nxt n5).nxt n6)
/-! ### if, for, while -/
theorem z_ifs {c : Expr} {a b : List Stmt} {ec : Ex} {ea eb : Sms} {pos : Pos} (hc : PT X c (semT X.K Γ gl ec)) (ha : PSs X a (semSs X.K Γ gl ea)) (hb : PSs X b (semSs X.K Γ gl eb)) : PS X (.If c a b pos) (semS X.K Γ gl (.ifs ec ea eb)) :=
  PS.imp (ps_if hc ha hb) fun D σ H ⟨env, S, fl, S', m, Z, h, r, w, f⟩ => by
    obtain ⟨v, S1, h1, h2⟩ := bnd_ok (show bnd (eval Γ gl ec env) (fun v => bnd (toB v) fun t => if t = true then execs Γ gl ea env else execs Γ gl eb env) S = .ok fl S' from h)
    obtain ⟨t, S2, h3, h4⟩ := bnd_ok h2
    obtain ⟨rfl, rfl⟩ := toB_ok h3
    refine semT.at_ h1 r w fun m1 Z1 H1 n1 r1 w1 => ?_
    split
    · rename_i ht
      rw [if_pos ht] at h4
      exact ⟨env, S2, fl, S', m1, Z1, h4, r1, w1, f.trans n1⟩
    · rename_i ht
      rw [if_neg ht] at h4
      exact ⟨env, S2, fl, S', m1, Z1, h4, r1, w1, f.trans n1⟩
theorem z_for (hp : PassesOwn (model X.prog X.w) X.A X.env X.xe) (hc : X.calm = true) {tg iter : Expr} {body : List Stmt} {t : Tg} {it : It} {b : Sms} {pos : Pos} (hi : PI X tg iter (semI X.K Γ gl it)) (hg : PG X tg (gT X.K t)) (hb : PSs X body (semSs X.K Γ gl b))
    (hs : isSetD iter = false) : PS X (.For tg iter body [] pos) (semS X.K Γ gl (.for_ t it b)) :=
  PS.imp (ps_for hp hc hi hg hb (fold_ok' hs _)) fun D σ H ⟨env, S, fl, S', m, Z, h, r, w, f⟩ => by
    obtain ⟨s, S1, h1, h2⟩ := bnd_ok (show bnd (evalI Γ gl it env) (fun s => forL s.src (fun v e => bnd (bindT t v e) fun e1 => execs Γ gl b e1) s.its env) S = .ok fl S' from h)
    refine ⟨env, S, s, S1, m, Z, h1, r, w, fun J m1 Z1 H1 n1 r1 wk => ?_⟩
    refine ⟨fun i k σ H => k = s.its.length - i ∧ i ≤ s.its.length ∧ ∃ env S m Z, forL s.src (fun v e => bnd (bindT t v e) fun e1 => execs Γ gl b e1) (s.its.drop i) env S = .ok fl S' ∧ Rel m Z S H ∧ Nxt m1 Z1 H1 m Z H ∧ ERel X.K m Z env σ,
      ⟨_, rfl, Nat.zero_le _, env, S1, m1, Z1, h2, r1, .refl, w.nxt n1⟩, ?_⟩
    rintro i k σ H ⟨rfl, hi, env, S3, m, Z, hl, r3, n3, w3⟩
    by_cases hcc : i < s.its.length
    · have hv : s.its[i]? = some s.its[i] := List.getElem?_eq_getElem hcc
      rw [List.drop_eq_getElem_cons hcc] at hl
      obtain ⟨_, S4, k1, k2⟩ := bnd_ok (show bnd (stays s.src) (fun _ => bnd (bnd (bindT t s.its[i] env) fun e1 => execs Γ gl b e1) fun fl => match fl with
        | .nx e => forL s.src (fun v e => bnd (bindT t v e) fun e1 => execs Γ gl b e1) (s.its.drop (i + 1)) e
        | .ct e => forL s.src (fun v e => bnd (bindT t v e) fun e1 => execs Γ gl b e1) (s.its.drop (i + 1)) e
        | .br e => ret (.nx e)
        | .rt v => ret (.rt v)) S3 = .ok fl S' from hl)
      obtain ⟨fl1, S5, k3, k4⟩ := bnd_ok k2
      obtain ⟨e1, S6, k5, k6⟩ := bnd_ok k3
      have es := (stays_ok k1).1
      subst es
      have es := bindT_same k5
      subst es
      obtain ⟨hgo, hy⟩ := (wk i m Z H S6 n3 r3 k1).1 _ hv
      refine .inr ⟨hgo, fun σ' H' => (s.its.length - (i + 1) = s.its.length - (i + 1) ∧ i + 1 ≤ s.its.length ∧ ∃ env S m Z, forL s.src (fun v e => bnd (bindT t v e) fun e1 => execs Γ gl b e1) (s.its.drop (i + 1)) env S = .ok fl S' ∧ Rel m Z S H' ∧ Nxt m1 Z1 H1 m Z H' ∧ ERel X.K m Z env σ'),
        fun σ' H' h => ⟨s.its.length - (i + 1), by omega, h⟩, fun x H' hx => ?_⟩
      obtain ⟨Z5, n5, r5, v5⟩ := hy x H' hx
      refine gT_ok k5 r5 v5 (w3.nxt n5) fun σ2 w2 _ => ?_
      refine ⟨e1, S6, fl1, S5, m, Z5, k6, r5, w2, fun m8 Z8 H8 n8 r8 => ?_⟩
      have nn := n3.trans (n5.trans n8)
      cases fl1 with
      | nx e => exact fun σ' w' => ⟨rfl, hcc, e, S5, m8, Z8, k4, r8, nn, w'⟩
      | ct e => exact fun σ' w' => ⟨rfl, hcc, e, S5, m8, Z8, k4, r8, nn, w'⟩
      | br e =>
        obtain ⟨rfl, rfl⟩ := ret_ok (show ret (Fl.nx e) S5 = .ok fl S' from k4)
        exact fun σ' w' => f.here (n1.trans nn) r8 w'
      | rt v =>
        obtain ⟨rfl, rfl⟩ := ret_ok (show ret (Fl.rt v) S5 = .ok fl S' from k4)
        exact f m8 Z8 H8 (n1.trans nn) r8
    · have ei : i = s.its.length := by omega
      rw [ei, List.drop_length] at hl
      obtain ⟨_, S4, k1, k2⟩ := bnd_ok (show bnd (stays s.src) (fun _ => ret (Fl.nx env)) S3 = .ok fl S' from hl)
      have es := (stays_ok k1).1
      subst es
      obtain ⟨rfl, rfl⟩ := ret_ok k2
      exact .inl ⟨(wk i m Z H _ n3 r3 k1).2 (by omega), f.here (n1.trans n3) r3 w3⟩
theorem z_whl (hp : PassesOwn (model X.prog X.w) X.A X.env X.xe) {c : Expr} {body : List Stmt} {ec : Ex} {b : Sms} {pos : Pos} (hc : PT X c (semT X.K Γ gl ec)) (hb : PSs X body (semSs X.K Γ gl b)) : PS X (.While c body [] pos) (semS X.K Γ gl (.whl ec b)) :=
  PS.imp (ps_while hp hc hb) fun D σ H0 ⟨env, S, fl, S', m, Z, h, r, w, f⟩ => by
    have h : whlL (fun e => bnd (eval Γ gl ec e) toB) (fun e => execs Γ gl b e) fuel env S = .ok fl S' := h
    refine ⟨fun k σ H => ∃ env S m' Z', whlL (fun e => bnd (eval Γ gl ec e) toB) (fun e => execs Γ gl b e) k env S = .ok fl S' ∧ Rel m' Z' S H ∧ Nxt m Z H0 m' Z' H ∧ ERel X.K m' Z' env σ, ⟨fuel, env, S, m, Z, h, r, .refl, w⟩, ?_⟩
    rintro k σ H ⟨env, S3, m3, Z3, hl, r3, n3, w3⟩
    cases k with
    | zero => exact (no_ok hl).elim
    | succ k =>
      obtain ⟨t, S4, k1, k2⟩ := bnd_ok (show bnd (bnd (eval Γ gl ec env) toB) (fun t => if t = true then bnd (execs Γ gl b env) fun fl => match fl with
        | .nx e => whlL (fun e => bnd (eval Γ gl ec e) toB) (fun e => execs Γ gl b e) k e
        | .ct e => whlL (fun e => bnd (eval Γ gl ec e) toB) (fun e => execs Γ gl b e) k e
        | .br e => ret (.nx e)
        | .rt v => ret (.rt v) else ret (.nx env)) S3 = .ok fl S' from hl)
      obtain ⟨v, S5, k3, k4⟩ := bnd_ok k1
      obtain ⟨rfl, rfl⟩ := toB_ok k4
      refine semT.at_ k3 r3 w3 fun m5 Z5 H5 n5 r5 w5 => ?_
      split
      · rename_i ht
        rw [if_pos ht] at k2
        obtain ⟨fl1, S6, k5, k6⟩ := bnd_ok k2
        refine ⟨fun σ' H' => ∃ env S m' Z', whlL (fun e => bnd (eval Γ gl ec e) toB) (fun e => execs Γ gl b e) k env S = .ok fl S' ∧ Rel m' Z' S H' ∧ Nxt m Z H0 m' Z' H' ∧ ERel X.K m' Z' env σ', fun σ' H' h => ⟨k, Nat.lt_succ_self _, h⟩, ?_⟩
        refine ⟨env, S4, fl1, S6, m5, Z5, k5, r5, w5, fun m8 Z8 H8 n8 r8 => ?_⟩
        have nn := n3.trans (n5.trans n8)
        cases fl1 with
        | nx e => exact fun σ' w' => ⟨e, S6, m8, Z8, k6, r8, nn, w'⟩
        | ct e => exact fun σ' w' => ⟨e, S6, m8, Z8, k6, r8, nn, w'⟩
        | br e =>
          obtain ⟨rfl, rfl⟩ := ret_ok (show ret (Fl.nx e) S6 = .ok fl S' from k6)
          exact fun σ' w' => f.here nn r8 w'
        | rt v =>
          obtain ⟨rfl, rfl⟩ := ret_ok (show ret (Fl.rt v) S6 = .ok fl S' from k6)
          exact f m8 Z8 H8 nn r8
      · rename_i ht
        rw [if_neg ht] at k2
        obtain ⟨rfl, rfl⟩ := ret_ok k2
        exact f.here (n3.trans n5) r5 w5
end
end Mp
end
section
set_option autoImplicit false
set_option linter.all false
set_option maxRecDepth 100000
set_option maxHeartbeats 4000000
/-! Mq1: how plain parameters are bound. -/
namespace Mp
open PySem PySem.Spec PyProof.Rows L2
/-- plain parameters alone -/
structure PlainPs (p : Arguments) (ps : List Str) : Prop where
  a : p.posonlyargs = []
  b : p.args.map (·.arg) = ps
  c : p.vararg = none
  d : p.kwonlyargs = []
  e : p.kwarg = none
  nd : ps.Nodup
theorem fm_congr {α β : Type} {f g : α → Option β} : ∀ {l : List α}, (∀ a ∈ l, f a = g a) → l.filterMap f = l.filterMap g
  | [], _ => rfl
  | a :: l, h => by
    rw [List.filterMap_cons, List.filterMap_cons, h a List.mem_cons_self, fm_congr fun b hb => h b (List.mem_cons_of_mem _ hb)]
theorem zip_lookup {α : Type} : ∀ {ps : List Str} {us : List α}, ps.Nodup → us.length = ps.length → (ps.filterMap fun n => ((ps.zip us).lookup n).map (n, ·)) = ps.zip us ∧ ∀ n ∈ ps, ((ps.zip us).lookup n).isNone = false
  | [], us, _, _ => ⟨rfl, fun n h => by cases h⟩
  | p :: ps, [], _, h => by simp at h
  | p :: ps, u :: us, nd, h => by
    obtain ⟨h1, h2⟩ := List.nodup_cons.mp nd
    obtain ⟨e, q⟩ := zip_lookup (us := us) h2 (by simpa using h)
    have tail : ∀ n ∈ ps, (((p :: ps).zip (u :: us)).lookup n) = (ps.zip us).lookup n := fun n hn => by
      rw [List.zip_cons_cons, List.lookup_cons]
      have : (n == p) = false := by
        rw [beq_eq_false_iff_ne]
        rintro rfl
        exact h1 hn
      rw [this]
    refine ⟨?_, fun n hn => ?_⟩
    · rw [List.filterMap_cons]
      have e0 : (((p :: ps).zip (u :: us)).lookup p) = some u := by rw [List.zip_cons_cons, List.lookup_cons_self]
      rw [e0]
      show (p, u) :: _ = (p, u) :: ps.zip us
      congr 1
      rw [← e]
      exact fm_congr fun n hn => by rw [tail n hn]
    · rcases List.mem_cons.mp hn with rfl | hn
      · rw [List.zip_cons_cons, List.lookup_cons_self]; rfl
      · rw [tail n hn]; exact q n hn
theorem filter_nil {ps : List Str} {f : Str → Bool} (h : ∀ n ∈ ps, f n = false) (k : Nat) : (ps.take k).filter f = [] := by
  rw [List.filter_eq_nil_iff]
  intro n hn
  rw [h n (List.mem_of_mem_take hn)]
  simp
theorem binds_pos {s : Shared} {fd : FuncData} {ps : List Str} {us : List Value} (P : PlainPs fd.params ps) (hd : fd.defaults = .none) (hl : us.length = ps.length) : BindsTo s fd ⟨us, []⟩ (ps.zip us) := by
  obtain ⟨e1, e2⟩ := zip_lookup P.nd hl
  refine BindsTo.of_eq ?_
  unfold bindArgs
  simp only [P.a, P.b, P.c, P.d, P.e, List.map_nil, List.nil_append, List.append_nil, List.forIn_nil, pure_bind, hd]
  show (do let r ← seqItems? Value.none; _) = _
  rw [show seqItems? Value.none = pure none from rfl]
  simp only [pure_bind, Option.getD_none, List.drop_nil, List.length_nil, Nat.sub_zero, List.zip_nil_right, List.forIn_nil, hl]
  rw [if_neg (by simp)]
  rw [filter_nil e2]
  simp only [List.isEmpty_nil, Bool.not_true, Bool.false_eq_true, if_false, pure_bind]
  rw [e1]
theorem kw_loop {ps : List Str} {f : Str × Value → List (Str × Value) × List (Str × Value) → Sem (ForInStep (List (Str × Value) × List (Str × Value)))} (hf : ∀ kv a b, kv.1 ∈ ps → a.lookup kv.1 = none → f kv (a, b) = pure (.yield (a ++ [kv], b))) :
    ∀ (l a b : List (Str × Value)), (∀ kv ∈ l, kv.1 ∈ ps) → (l.map Prod.fst).Nodup → (∀ kv ∈ l, a.lookup kv.1 = none) → forIn l (a, b) f = pure (a ++ l, b)
  | [], a, b, _, _, _ => by rw [List.forIn_nil, List.append_nil]
  | kv :: l, a, b, h1, h2, h3 => by
    rw [List.map_cons] at h2
    obtain ⟨n1, n2⟩ := List.nodup_cons.mp h2
    rw [List.forIn_cons, hf kv a b (h1 kv List.mem_cons_self) (h3 kv List.mem_cons_self), pure_bind]
    show forIn l (a ++ [kv], b) f = _
    rw [kw_loop hf l (a ++ [kv]) b (fun q hq => h1 q (List.mem_cons_of_mem _ hq)) n2 fun q hq => ?_, List.append_assoc]
    · rfl
    · have e := h3 q (List.mem_cons_of_mem _ hq)
      rw [List.lookup_append, e]
      have ne : (q.1 == kv.1) = false := by
        rw [beq_eq_false_iff_ne]
        intro e2
        exact n1 (by rw [← e2]; exact List.mem_map.mpr ⟨q, hq, rfl⟩)
      show (List.lookup q.1 [(kv.1, kv.2)]) = none
      rw [List.lookup_cons, ne]
      rfl
theorem binds_of {ps : List Str} {us : List Value} {l : List (Str × Value)} : ∀ {qs : List Str} {vs : List Value}, vs.length = qs.length → (∀ (i : Nat) (p : Str) (u : Value), qs[i]? = some p → vs[i]? = some u → l.lookup p = some u) →
    (qs.filterMap fun n => (l.lookup n).map (n, ·)) = qs.zip vs ∧ ∀ n ∈ qs, (l.lookup n).isNone = false
  | [], vs, _, _ => ⟨rfl, fun n h => by cases h⟩
  | q :: qs, [], h, _ => by simp at h
  | q :: qs, v :: vs, h, k => by
    obtain ⟨e1, e2⟩ := binds_of (ps := ps) (us := us) (qs := qs) (vs := vs) (by simpa using h) fun i p u a b => k (i + 1) p u (by simpa using a) (by simpa using b)
    have e0 := k 0 q v rfl rfl
    refine ⟨?_, fun n hn => ?_⟩
    · rw [List.filterMap_cons, e0, List.zip_cons_cons, ← e1]
      rfl
    · rcases List.mem_cons.mp hn with rfl | hn
      · rw [e0]; rfl
      · exact e2 n hn
theorem binds_kw {s : Shared} {fd : FuncData} {ps ks : List Str} {ws us : List Value} (P : PlainPs fd.params ps) (hd : fd.defaults = .none) (nk : ks.Nodup) (hk : ∀ k ∈ ks, k ∈ ps) (hl : ks.length = ws.length) (hu : us.length = ps.length)
    (h : ∀ (i : Nat) (p : Str) (u : Value), ps[i]? = some p → us[i]? = some u → (ks.zip ws).lookup p = some u) : BindsTo s fd ⟨[], ks.zip ws⟩ (ps.zip us) := by
  refine BindsTo.of_eq ?_
  unfold bindArgs
  simp only [P.a, P.b, P.c, P.d, P.e, List.map_nil, List.nil_append, List.append_nil, pure_bind, hd]
  have hz : ps.zip ([] : List Value) = [] := List.zip_nil_right
  rw [hz, kw_loop (ps := ps) (fun kv a b _ _ => ?_) (ks.zip ws) [] [] (fun kv hkv => hk _ (List.of_mem_zip hkv).1) ?_ (fun _ _ => rfl), List.nil_append]
  · obtain ⟨e1, e2⟩ := binds_of (ps := ps) (us := us) (l := ks.zip ws) hu h
    simp only [pure_bind]
    show (do let r ← seqItems? Value.none; _) = _
    rw [show seqItems? Value.none = pure none from rfl]
    simp only [pure_bind, Option.getD_none, List.drop_nil, List.length_nil, Nat.sub_zero, List.zip_nil_right, List.forIn_nil]
    rw [if_neg (by simp), filter_nil e2]
    simp only [List.isEmpty_nil, Bool.not_true, Bool.false_eq_true, if_false, pure_bind]
    rw [e1]
  · have e : (ks.zip ws).map Prod.fst = ks := List.map_fst_zip (by omega)
    rw [e]; exact nk
  · rename_i hm hn
    rw [if_pos (by simp [hm]), if_neg (by rw [hn]; simp)]
end Mp
end
section
set_option autoImplicit false
set_option linter.all false
set_option maxRecDepth 100000
set_option maxHeartbeats 4000000
/-! Mp22: what a function promises (the guards are none), its call, its body. -/
namespace Mp
open PySem PySem.Spec PyProof.Rows L2
/-- a call ends with a value -/
def CRn (outer : List PySem.Env) (P : Program) (w : World) (H : Hp) (s : Shared) (Q : VK) (r : Result) (s' : Shared) : Prop := match r with
  | .ok (.ret u) => CE outer P w H s Q u s'
  | _ => False
structure FnG (P : Program) (w : World) (K : PySem.W.Frag) (mg : Str → Option Value) (base : Heap) (k : Nat) (f : Addr) (ps : List Str) (sp : List V → Hp → VK → Prop) : Prop where
  len : ∀ vs H Q, sp vs H Q → vs.length = ps.length
  run : ∃ fd : FuncData, PlainPs fd.params ps ∧ fd.defaults = .none ∧
    ∀ (A : Around) (outer : List PySem.Env) (s : Shared) (H : Hp) (args : Args) (us : List Value) (vs : List V) (Q : VK), Room k A → A.guards = some [] → Env0 P w K mg base A outer s H → BindsTo s fd args (ps.zip us) → Vals vs us → sp vs H Q →
      codeAny (model P w) A (.call (.ref f) args) (CRn outer P w H s Q) s
section
variable {X : Cx} {k : Nat} {f : Addr} {ps : List Str} {sp : List V → Hp → VK → Prop}
theorem FnG.back {pins : List (Addr × Obj)} {σ : L2.St} {H : Hp} {s : Shared} {Q : VK} (J : Inv X pins σ H s) {r : Result} {s' : Shared} (h : CRn X.stack X.prog X.w H s Q r s') : match r with
    | .ok (.ret u) => EP X pins σ Q u s'
    | _ => False := by
  cases r with
  | error e => exact h
  | ok fl =>
    cases fl with
    | ret u => exact J.after h
    | _ => exact h
theorem FnG.go {pins : List (Addr × Obj)} {σ : L2.St} {H : Hp} {s : Shared} {Q : VK} (J : Inv X pins σ H s) {args : Args} (h : codeAny (model X.prog X.w) X.A (.call (.ref f) args) (CRn X.stack X.prog X.w H s Q) s) : wpAny (model X.prog X.w) X.A (PySem.call (.ref f) args.pos args.kw) (EP X pins σ Q) X.xe s := by
  refine wpAny_call (codeAny_mono h fun r s' q => ?_)
  have q' := FnG.back J q
  cases r with
  | error e => exact q'.elim
  | ok fl =>
    cases fl with
    | ret u => exact q'
    | _ => exact q'.elim
theorem FnG.call (F : FnG X.prog X.w X.K X.mg X.base k f ps sp) (room : Room k X.A) (gd : X.A.guards = some []) : CallR X (.ref f) sp := by
  obtain ⟨fd, pp, dn, run⟩ := F.run
  intro pins s σ H vs us Q J rv h
  have len := F.len _ _ _ h
  rw [rv.length] at len
  exact FnG.go J (run X.A X.stack s H ⟨us, []⟩ us vs Q room gd J.env0 (binds_pos pp dn len) rv h)
theorem permL_get {α : Type} {l : List α} : ∀ {perm : List Nat} {r : List α}, permL l perm = some r → r.length = perm.length ∧ ∀ (i : Nat) (x : α), r[i]? = some x → ∃ j, perm[i]? = some j ∧ l[j]? = some x
  | [], r, h => by
    cases h
    exact ⟨rfl, fun i x e => by simp at e⟩
  | j :: perm, r, h => by
    unfold permL at h
    cases e1 : l[j]? with
    | none => rw [e1] at h; cases h
    | some x =>
      cases e2 : permL l perm with
      | none => rw [e1, e2] at h; cases h
      | some t =>
        rw [e1, e2] at h
        cases h
        obtain ⟨k1, k2⟩ := permL_get e2
        refine ⟨by rw [List.length_cons, List.length_cons, k1], fun i y e => ?_⟩
        cases i with
        | zero =>
          simp at e
          subst e
          exact ⟨j, rfl, e1⟩
        | succ i => simpa using k2 i y (by simpa using e)
theorem permL_vals {xs : List V} {us : List Value} (r : Vals xs us) : ∀ {perm : List Nat} {ys : List V}, permL xs perm = some ys → ∃ ws, permL us perm = some ws ∧ Vals ys ws
  | [], ys, h => by
    cases h
    exact ⟨[], rfl, .nil⟩
  | j :: perm, ys, h => by
    unfold permL at h
    cases e1 : xs[j]? with
    | none => rw [e1] at h; cases h
    | some x =>
      cases e2 : permL xs perm with
      | none => rw [e1, e2] at h; cases h
      | some t =>
        rw [e1, e2] at h
        cases h
        obtain ⟨u, k1, k2⟩ := r.get e1
        obtain ⟨ws, k3, k4⟩ := permL_vals r e2
        exact ⟨u :: ws, by unfold permL; rw [k1, k3], .cons k2 k4⟩
theorem zip_look {α : Type} : ∀ {ks : List Str} {ws : List α} {j : Nat} {p : Str} {u : α}, ks.Nodup → ks[j]? = some p → ws[j]? = some u → (ks.zip ws).lookup p = some u
  | [], _, _, _, _, _, h, _ => by simp at h
  | _ :: _, [], _, _, _, _, _, h => by simp at h
  | k :: ks, w :: ws, 0, p, u, _, h1, h2 => by
    simp at h1 h2
    subst h1
    subst h2
    rw [List.zip_cons_cons, List.lookup_cons_self]
  | k :: ks, w :: ws, j + 1, p, u, nd, h1, h2 => by
    obtain ⟨n1, n2⟩ := List.nodup_cons.mp nd
    have h1' : ks[j]? = some p := by simpa using h1
    rw [List.zip_cons_cons, List.lookup_cons]
    have : (p == k) = false := by
      rw [beq_eq_false_iff_ne]
      rintro rfl
      exact n1 (List.mem_of_getElem? h1')
    rw [this]
    exact zip_look n2 h1' (by simpa using h2)
/-- keywords alone -/
theorem FnG.callK (F : FnG X.prog X.w X.K X.mg X.base k f ps sp) (room : Room k X.A) (gd : X.A.guards = some []) {ks : List Str} {perm : List Nat} (nk : ks.Nodup) (hk : ∀ x ∈ ks, x ∈ ps) (hp : permL ks perm = some ps) {pins : List (Addr × Obj)} {σ : L2.St} {H : Hp} {s : Shared} {Q : VK} {ws : List Value} {zs ys : List V}
    (J : Inv X pins σ H s) (rz : Vals zs ws) (h2 : zs.length = ks.length) (hy : permL zs perm = some ys) (h : sp ys H Q) : wpAny (model X.prog X.w) X.A (PySem.call (.ref f) [] (ks.zip ws)) (EP X pins σ Q) X.xe s := by
  obtain ⟨fd, pp, dn, run⟩ := F.run
  obtain ⟨us, e1, e2⟩ := permL_vals rz hy
  obtain ⟨l1, g1⟩ := permL_get hp
  obtain ⟨l2, g2⟩ := permL_get e1
  refine FnG.go (args := ⟨[], ks.zip ws⟩) J (run X.A X.stack s H ⟨[], ks.zip ws⟩ us ys Q room gd J.env0 (binds_kw pp dn nk hk (by rw [← rz.length]; exact h2.symm) (by rw [l1, l2]) fun i p u hp' hu' => ?_) e2 h)
  obtain ⟨j, a1, a2⟩ := g1 i p hp'
  obtain ⟨j', b1, b2⟩ := g2 i u hu'
  rw [a1] at b1
  cases b1
  exact zip_look nk a2 b2
end
theorem fn_g {P : Program} {w : World} {K : PySem.W.Frag} {mg : Str → Option Value} {base : Heap} {k : Nat} {f : Addr} {name qual : Str} {params : Arguments} {body : List Stmt} {scope : Scope} {dV kV doc pm cdv ct oc : Value} {an od : Option Addr}
    {osl : Array (Option Value)} {N ps : List Str} {sp : List V → Hp → VK → Prop} (lk : K.lookup f = some ⟨oc, od, .func (PySem.W.fnOf name qual params body scope dV kV doc pm an cdv ct), osl⟩) (cd : PySem.W.codeIn K cdv qual = true) (S : FnScope N ps scope)
    (len : ∀ vs H Q, sp vs H Q → vs.length = ps.length)
    (pp : PlainPs params ps) (dn : dV = .none)
    (hbody : ∀ (A : Around) (outer : List PySem.Env) (s : Shared) (H : Hp) (vs : List V) (Q : VK), Room k (A.deeper (envOfC qual scope s.heap.objs.size f cdv)) → A.guards = some [] → sp vs H Q →
      ∃ t, PSs (cxOf (fun _ _ _ _ _ _ => False) P w K mg base N qual scope f cdv A outer s H fun _ _ _ => False) body t ∧ t { nx := fun _ H' => Q .non H', rt := Q } (start N vs) H) :
    FnG P w K mg base (k + 1) f ps sp := by
  refine ⟨len, PySem.W.fnOf name qual params body scope dV kV doc pm an cdv ct, pp, dn, fun A outer s H args us vs Q room gd env0 bnds rv wish => ?_⟩
  have sub : ∀ b o, base.get? b = some o → s.heap.get? b = some o := fun b o e => (env0.bs b o e).1
  have kinds : ∀ y ∈ ps.zip us, scope.names.lookup y.1 = some .local ∨ (scope.names.lookup y.1 = some .cell ∧ ((cellsFrom (s.heap.objs.size + 1) scope.names []).lookup y.1).isSome = true) := by
    rintro ⟨x, v⟩ hy
    rcases S.par x (List.of_mem_zip hy).1 with q | q
    · exact Or.inl q
    · exact Or.inr ⟨q, PySem.W.cellsFrom_some _ _ _ (Or.inl q)⟩
  obtain ⟨t, ht, hq⟩ := hbody A outer s H vs Q (room.deeper _) gd wish
  refine codeAny_call_function room.depth (sub _ _ (env0.mod.kin _ _ lk)) rfl S.co S.gen rfl (PySem.W.codeRec_of (env0.mod.kin.keeps sub) cd) (bnds _ _ _ _ (wpAny_newFunctionEnv_cells S.kind kinds fun env eE s1 entered => ?_))
  subst eE
  have J := inv_start (CX := fun _ _ _ _ _ _ => False) (E := fun _ _ _ => False) S room.hd env0 (len _ _ _ wish) rv entered
  refine ⟨(env0.mod.nolimit.keeps sub).keeps entered.toInCall.keep, codeAny_func (wpAny_mono (ht.run [] s1 (start N vs) H _ J hq) (fun fl s' e => ?_) fun e s' he => ?_)⟩
  · have close : ∀ {σ' : L2.St} {H' : Hp} {v : V} {u : Value}, Inv (cxOf (fun _ _ _ _ _ _ => False) P w K mg base N qual scope f cdv A outer s H fun _ _ _ => False) [] σ' H' s' → RelV v u → Q v H' → CE outer P w H s Q u s' := fun J' rv' q' => ⟨_, _, J'.os, J'.bare, J'.base, J'.hok, rv', q'⟩
    cases fl with
    | ret u =>
      obtain ⟨v, σ', H', J', rv', q'⟩ := e
      exact close J' rv' q'
    | next =>
      obtain ⟨σ', H', J', q'⟩ := e
      exact close (v := .non) (u := .none) J' rfl q'
    | brk =>
      obtain ⟨_, _, _, q'⟩ := e
      exact q'.elim
    | cont =>
      obtain ⟨_, _, _, q'⟩ := e
      exact q'.elim
  · exact wpAny_mono he (fun _ _ z => z.elim) fun _ _ z => z.elim
end Mp
end
section
set_option autoImplicit false
set_option linter.all false
set_option maxRecDepth 100000
set_option maxHeartbeats 4000000
/-! Mq2: calls with keywords alone; tests by if; displays and copies that will be changed. -/
namespace Mp
open PySem PySem.Spec PyProof.Rows L2
def kwNames : List Keyword → Option (List Str)
  | [] => some []
  | ⟨some x, _, _⟩ :: r => (kwNames r).map (x :: ·)
  | ⟨none, _, _⟩ :: _ => none
theorem kw_names {env : PySem.Env} {pos : Pos} : ∀ {kws : List Keyword} {ks : List Str}, kwNames kws = some ks → (backToKw pos (keywordEach kws env)).all (·.1.isSome) = true ∧ (backToKw pos (keywordEach kws env)).filterMap (·.1) = ks ∧ (backToKw pos (keywordEach kws env)).any (·.1.isNone) = false
  | [], ks, h => by
    cases h
    exact ⟨rfl, rfl, rfl⟩
  | ⟨none, _, _⟩ :: _, ks, h => by cases h
  | ⟨some x, e, p⟩ :: r, ks, h => by
    cases e1 : kwNames r with
    | none =>
      rw [kwNames, e1] at h
      cases h
    | some t =>
      rw [kwNames, e1] at h
      cases h
      obtain ⟨a, b, c⟩ := kw_names (env := env) (pos := pos) e1
      refine ⟨?_, ?_, ?_⟩
      · show ((some x).isSome && (backToKw pos (keywordEach r env)).all (·.1.isSome)) = true
        rw [a]; rfl
      · show x :: (backToKw pos (keywordEach r env)).filterMap (·.1) = x :: t
        rw [b]
      · show ((some x).isNone || (backToKw pos (keywordEach r env)).any (·.1.isNone)) = false
        rw [c]; rfl
section
variable {X : Cx} {Γ : Nat → List Val → M Val} {gl : List PyData}
theorem PK.imp {kws : List Keyword} {t t' : TA} (h : PK X kws t) (w : ∀ σ H Q, t' σ H Q → t σ H Q) : PK X kws t' := ⟨fun pos pins s σ H Q I q => h.run pos pins s σ H Q I (w σ H Q q)⟩
theorem pkv_nil : PK X [] (semVs X.K Γ gl .nil) := PK.imp pk_nil fun σ H Q ⟨env, S, xs, S', m, Z, h, r, w, q⟩ => by
  obtain ⟨rfl, rfl⟩ := ret_ok (show ret [] S = .ok xs S' from h)
  exact q [] m Z H .refl r .nil
theorem pkv_cons {nm : Option Str} {e : Expr} {p : Pos} {kws : List Keyword} {a : Ex} {as : Exs} (ha : PE X e (semE X.K Γ gl a)) (hr : PK X kws (semVs X.K Γ gl as)) : PK X (⟨nm, e, p⟩ :: kws) (semVs X.K Γ gl (.cons a as)) :=
  PK.imp (pk_cons ha hr) fun σ H Q ⟨env, S, xs, S', m, Z, h, r, w, q⟩ => by
    obtain ⟨v, S1, h1, h2⟩ := bnd_ok (show bnd (eval Γ gl a env) (fun v => bnd (evalV Γ gl as env) fun xs => ret (v :: xs)) S = .ok xs S' from h)
    obtain ⟨ys, S3, h5, h6⟩ := bnd_ok h2
    obtain ⟨rfl, rfl⟩ := ret_ok h6
    refine semE.at_ h1 r w fun u m1 Z1 H1 n1 r1 w1 v1 => ?_
    exact ⟨env, S1, ys, S', m1, Z1, h5, r1, w1, fun us m' Z' H' n r' d => q (u :: us) m' Z' H' (n1.trans n) r' (.cons (VR.nxt n v1) d)⟩
theorem permL_vr {K : PySem.W.Frag} {m : List Addr} {Z : Hp} {vs : List Val} {us : List V} (d : VRs K m Z vs us) : ∀ {perm : List Nat} {ws : List Val}, permL vs perm = some ws → ∃ ys, permL us perm = some ys ∧ VRs K m Z ws ys
  | [], ws, h => by
    cases h
    exact ⟨[], rfl, .nil⟩
  | j :: perm, ws, h => by
    unfold permL at h
    cases e1 : vs[j]? with
    | none => rw [e1] at h; cases h
    | some x =>
      cases e2 : permL vs perm with
      | none => rw [e1, e2] at h; cases h
      | some t =>
        rw [e1, e2] at h
        cases h
        have get : ∀ {vs : List Val} {us : List V}, VRs K m Z vs us → ∀ {j : Nat} {x : Val}, vs[j]? = some x → ∃ u, us[j]? = some u ∧ VR K m Z x u := by
          intro vs us d
          unfold VRs at d
          induction d with
          | nil => intro j x e; simp at e
          | cons a b ih =>
            intro j x e
            cases j with
            | zero => simp at e; subst e; exact ⟨_, rfl, a⟩
            | succ j => simpa using ih (by simpa using e)
        obtain ⟨u, k1, k2⟩ := get d e1
        obtain ⟨ys, k3, k4⟩ := permL_vr d e2
        exact ⟨u :: ys, by unfold permL; rw [k1, k3], .cons k2 k4⟩
theorem s_callk {f : Addr} {k n : Nat} {ps ks : List Str} {perm : List Nat} {x : Str} {kws : List Keyword} {as : Exs} {p pos : Pos} (F : FnG X.prog X.w X.K X.mg X.base n f ps (semCall X.K Γ k)) (room : Room n X.A) (gd : X.A.guards = some []) (hg : Gl X x) (hm : X.mg x = some (.ref f))
    (hk : PySem.W.keepIn X.K (.ref f) = true) (hdb : (x == ("__debug__" : Str)) = false) (ha : PK X kws (semVs X.K Γ gl as)) (kn : kwNames kws = some ks) (nk : ks.Nodup) (sub : ∀ y ∈ ks, y ∈ ps) (hp : permL ks perm = some ps) (hl : ∀ env S vs S', evalV Γ gl as env S = .ok vs S' → vs.length = ks.length) :
    PE X (.Call (.Name x p) [] kws pos) (semE X.K Γ gl (.callk k as perm)) := by
  obtain ⟨q1, q2, q3⟩ := kw_names (env := X.env) (pos := pos) kn
  refine ⟨fun pins s0 σ0 H0 Q0 I0 h0 => wpAny_Call_Name_kw (ld_glob I0 hg hm (PySem.W.callWith_KW0 (h₀ := X.base) I0.ok.mod.kin hk q1 ?_ (by rw [q3]; rfl)) hdb)⟩
  obtain ⟨env, S, v, S', m, Z, h, r, w, fin⟩ := h0
  obtain ⟨vs, S1, h1, h2⟩ := bnd_ok (show bnd (evalV Γ gl as env) (fun vs => bnd (ofO (permL vs perm)) fun us => Γ k us) S = .ok v S' from h)
  obtain ⟨ws, S2, h3, h4⟩ := bnd_ok h2
  obtain ⟨e, rfl⟩ := ofO_ok h3
  refine thn (ha.run pos pins s0 σ0 H0 (fun us H1 => us.length = ks.length ∧ ∃ ys, permL us perm = some ys ∧ semCall X.K Γ k ys H1 Q0) I0 ⟨env, S, vs, S2, m, Z, h1, r, w, fun us m' Z' H' n' r' d => ?_⟩) fun wv s1 ⟨zs, H1, I1, rz, len, ys, ey, sm⟩ => ⟨I1.kIn, ?_⟩
  · obtain ⟨ys, e1, e2⟩ := permL_vr d e
    exact ⟨by rw [d.len]; exact hl env S vs S2 h1, ys, e1, ws, S2, v, S', m', Z', h4, r', e2, fun u m2 Z2 H2 n2 r2 q => fin u m2 Z2 H2 (n'.trans n2) r2 q⟩
  · rw [q2]
    exact FnG.callK F room gd nk sub hp I1 rz len ey sm
/-- a test by if -/
theorem t_ite {t a b : Expr} {et ea eb : Ex} {pos : Pos} (ht : PT X t (semT X.K Γ gl et)) (ha : PT X a (semT X.K Γ gl ea)) (hb : PT X b (semT X.K Γ gl eb)) : PT X (.IfExp t a b pos) (semT X.K Γ gl (.ite et ea eb)) := by
  refine ⟨fun pins s0 σ0 H0 Q0 I0 ⟨env, S, v, S', m, Z, h, r, w, f⟩ => ?_⟩
  obtain ⟨v1, S1, h1, h2⟩ := bnd_ok (show bnd (eval Γ gl et env) (fun v => bnd (toB v) fun c => if c = true then eval Γ gl ea env else eval Γ gl eb env) S = .ok _ S' from h)
  obtain ⟨c, S2, h3, h4⟩ := bnd_ok h2
  obtain ⟨rfl, rfl⟩ := toB_ok h3
  show wpAny _ _ (isTrue t X.env (PySem.eval t X.env) >>= fun c => if c = true then isTrue a X.env (PySem.eval a X.env) else isTrue b X.env (PySem.eval b X.env)) _ _ _
  refine wpAny_bind (thn (ht.run pins s0 σ0 H0 (fun d H1 => d = c ∧ ∃ m1 Z1, Nxt m Z H0 m1 Z1 H1 ∧ Rel m1 Z1 S2 H1 ∧ ERel X.K m1 Z1 env σ0) I0 (semT.at_ h1 r w fun m1 Z1 H1 n1 r1 w1 => ⟨rfl, m1, Z1, n1, r1, w1⟩)) fun d s1 ⟨H1, I1, e, m1, Z1, n1, r1, w1⟩ => ?_)
  subst e
  split
  · rename_i hc
    rw [if_pos hc] at h4
    exact ha.run pins s1 σ0 H1 Q0 I1 (semT.at_ h4 r1 w1 fun m2 Z2 H2 n2 r2 w2 => f m2 Z2 H2 (n1.trans n2) r2)
  · rename_i hc
    rw [if_neg hc] at h4
    exact hb.run pins s1 σ0 H1 Q0 I1 (semT.at_ h4 r1 w1 fun m2 Z2 H2 n2 r2 w2 => f m2 Z2 H2 (n1.trans n2) r2)
/-! ### lists that will be changed -/
theorem mk_lst {es : List Expr} {as : Exs} {pos : Pos} (h : PA X es (semD X.K Γ gl as)) : PE X (.List es pos) (semE X.K Γ gl (.mk (.lst as))) :=
  PE.imp (pe_lst h) fun σ H Q ⟨env, S, v, S', m, Z, h, r, w, f⟩ => by
    obtain ⟨S0, ⟨xs, g, al⟩ | ⟨kvs, g, _⟩⟩ := mk_ok h
    all_goals
      obtain ⟨ys, S1, h1, h2⟩ := bnd_ok (show bnd (evalD Γ gl as env) (fun xs => bnd (mkL xs) dat) S = .ok _ S0 from g)
      obtain ⟨z, S2, h3, h4⟩ := bnd_ok h2
      obtain ⟨rfl, rfl, hz⟩ := mkL_ok h3
      obtain ⟨e, rfl⟩ := ret_ok (show ret (Val.d (.list ys)) S2 = .ok _ S0 from h4)
      cases e
    refine ⟨env, S, xs, S0, m, Z, h1, r, w, fun us m' Z' H' n r' d => ⟨by rw [d.length]; exact hz, fun p hp => ?_⟩⟩
    obtain ⟨r2, n2⟩ := r'.newH (o := .lst us) hp
    exact cell_fin al f (n.trans n2) (n.gone r' hp) r2 upd_same d (r'.zfree hp) (r'.notm hp)
/-- list(x) -/
theorem mk_list (c : CxB X) (hg : Blt X "list") {e : Expr} {a : Ex} {p pos : Pos} (ha : PE X e (semE X.K Γ gl a)) (he : isStar e = false) : PE X (.Call (.Name "list" p) [e] [] pos) (semE X.K Γ gl (.mk (.b1 .list a))) :=
  PE.imp (pe_b1 (b := .list) rfl (call_b1 c .list) hg (pa_one ha he) he rfl) fun σ H Q ⟨env, S, v, S', m, Z, h, r, w, f⟩ => by
    obtain ⟨S0, ⟨xs, g, al⟩ | ⟨kvs, g, _⟩⟩ := mk_ok h
    all_goals
      obtain ⟨v1, S1, h1, h2⟩ := bnd_ok (show bnd (eval Γ gl a env) (fun v => bnd (peek v) fun x => bnd (b1D .list x) dat) S = .ok _ S0 from g)
      obtain ⟨x, S2, h3, h4⟩ := bnd_ok h2
      obtain ⟨y, S3, h5, h6⟩ := bnd_ok h4
      obtain ⟨rfl, p1⟩ := peek_ok (K := X.K) h3
      obtain ⟨e, rfl⟩ := ret_ok (show ret (Val.d y) S3 = .ok _ S0 from h6)
      cases e
    · refine one_sem h1 r w fun u m1 Z1 H1 n1 r1 w1 q1 => ?_
      have px := p1 r1 q1
      cases x with
      | list zs =>
        obtain ⟨e, rfl⟩ := ret_ok (show ret (PyData.list zs) S2 = .ok (.list xs) S0 from h5)
        cases e
        obtain ⟨q, us, rfl, g1, g2⟩ := px
        refine .inl ⟨q, us, rfl, .inl (SqL.of g1), fun l hl => ?_⟩
        obtain ⟨r2, n2⟩ := r1.newH (o := .lst us) hl
        exact cell_fin al f (n1.trans n2) (n1.gone r1 hl) r2 upd_same g2 (r1.zfree hl) (r1.notm hl)
      | tuple zs =>
        obtain ⟨e, rfl⟩ := ret_ok (show ret (PyData.list zs) S2 = .ok (.list xs) S0 from h5)
        cases e
        obtain ⟨q, us, rfl, g1, g2⟩ := PR.tup_iff.mp px
        refine .inl ⟨q, us, rfl, .inr (SqT.of (r1.sub.tup g1)), fun l hl => ?_⟩
        obtain ⟨r2, n2⟩ := r1.newH (o := .lst us) hl
        exact cell_fin al f (n1.trans n2) (n1.gone r1 hl) r2 upd_same g2 (r1.zfree hl) (r1.notm hl)
      | dict kvs =>
        obtain ⟨_, S4, k1, k2⟩ := bnd_ok (show bnd (guard (kvs.all fun p => keyAtom p.1)) (fun _ => ret (PyData.list (kvs.map (·.1)))) S2 = .ok (.list xs) S0 from h5)
        obtain ⟨e, rfl⟩ := guard_ok k1
        obtain ⟨e2, rfl⟩ := ret_ok k2
        cases e2
        obtain ⟨p, rfl, ⟨ws, g1, g2⟩ | ⟨ws, g1, g2⟩⟩ := px
        · refine .inr (.inl ⟨p, ws, rfl, g1.rd, fun l hl => ?_⟩)
          obtain ⟨r2, n2⟩ := r1.newH (o := .lst (ws.map fun kv => kV kv.1)) hl
          exact cell_fin al f (n1.trans n2) (n1.gone r1 hl) r2 upd_same g2.keys (r1.zfree hl) (r1.notm hl)
        · refine .inr (.inr ⟨p, ws, rfl, g1.rd, fun l bs hl hb => ?_⟩)
          obtain ⟨rfl, rfl⟩ := drt_atoms g2 e
          rw [isKeys_nil hb]
          obtain ⟨r2, n2⟩ := r1.newH (o := .lst []) hl
          exact cell_fin al f (n1.trans n2) (n1.gone r1 hl) r2 upd_same DRs.nil (r1.zfree hl) (r1.notm hl)
      | _ => exact nomatch (show (R.no : R PyData) = .ok (.list xs) S0 from h5)
    · cases x with
      | dict kvs =>
        obtain ⟨_, S4, k1, k2⟩ := bnd_ok (show bnd (guard (kvs.all fun p => keyAtom p.1)) (fun _ => ret (PyData.list (kvs.map (·.1)))) S2 = .ok (.dict _) S0 from h5)
        obtain ⟨e2, _⟩ := ret_ok k2
        cases e2
      | list zs => exact nomatch (ret_ok (show ret (PyData.list zs) S2 = .ok (.dict _) S0 from h5)).1
      | tuple zs => exact nomatch (ret_ok (show ret (PyData.list zs) S2 = .ok (.dict _) S0 from h5)).1
      | _ => exact nomatch (show (R.no : R PyData) = .ok (.dict _) S0 from h5)
end
end Mp
end
section
/-! sorted(..) of what can be gathered; keys as data -/
namespace Mr
open PySem PySem.Spec PyProof.Rows L2
section
variable {P : Program} {w : World} {A : Around} {E : Value → Shared → Prop} {s : Shared}
theorem sorted_any {u : Value} {G : List Value → Shared → Prop} {Q : Value → Shared → Prop} (col : wpAny (model P w) A.in1 (collect u) G E s)
    (fin : ∀ vs z, G vs z → ∃ bs : List (PyData × V), (∀ b o, s.heap.get? b = some o → z.heap.get? b = some o) ∧ s.heap.objs.size ≤ z.heap.objs.size ∧ PySem.W.EachIs (fun v (b : PyData × V) => RelV b.2 v ∧ ∃ as, Reads z.heap v b.1 as) vs bs ∧ PySem.W.AllAlike (bs.map Prod.fst) ∧
      PySem.W.Sortable (bs.map Prod.fst) ∧ bs.length ≤ sizeLine ∧ (∀ b ∈ bs, A.units + 4 + b.1.depth < cLine) ∧
      ∀ h' p c (out : List Value), (∀ b o, s.heap.get? b = some o → h'.get? b = some o) → s.heap.objs.size ≤ p → h'.get? p = some (seqObj "list" out.toArray c) → out.length = bs.length →
        PySem.W.EachIs (fun v (b : PyData × V) => RelV b.2 v) out (bs.mergeSort (PySem.W.dataLe false Prod.fst)) → Q (.ref p) { z with heap := h' }) :
    wpAny (model P w) A (call (.builtin "sorted") [u]) Q E s := by
  refine Calls.call_function_entry kind_sorted plain_sorted entry_sorted (args_sorted1 _) ?_
  unfold Builtin.«sorted»
  refine wpAny_bind (m := checkCount "sorted" 1 1 _) (wpAny_pure ?_)
  refine wpAny_bind (wpAny_mono col (fun vs z g => ?_) fun _ _ x => x)
  obtain ⟨bs, keep, more, each, al, so, sz, room, fin⟩ := fin vs z g
  have hlen : vs.length = bs.length := each.length
  refine wpAny_bind (wpAny_newList ?_ (by rw [hlen]; exact sz))
  have at_ : (z.heap.push (seqObj "list" vs.toArray 0)).get? z.heap.objs.size = some (seqObj "list" vs.toArray 0) := Heap.get?_push_size _ rfl
  have rd : PySem.W.EachIs (fun v (b : PyData × V) => ∃ as, Reads (z.heap.push (seqObj "list" vs.toArray 0)) v b.1 as ∧ z.heap.objs.size ∉ as) vs bs := each.mono fun v b ⟨_, as, r⟩ =>
    ⟨as, PyProof.Rows.Reads.keeps (fun _ _ e => Heap.get?_push_of_some _ e) r, fun m => by
      obtain ⟨o, ho⟩ := PyProof.On.reads_mem_get r _ m
      exact absurd (Heap.lt_size ho) (Nat.lt_irrefl _)⟩
  refine wpAny_bind (wpAny_holding (PySem.W.list_sort_data (s := { z with heap := z.heap.push (seqObj "list" vs.toArray 0) }) (β := PyData × V) (enc := Prod.fst) (R := fun v b => RelV b.2 v) at_ (each.mono fun _ _ x => x.1) rd al so sz
    (fun b hb => by have := room b hb; simp only [Around.in1]; omega) fun out hout eo => ?_))
  obtain ⟨c, hc⟩ := sortedHeap_at (vs := vs) (out := out.toArray) at_
  refine wpAny_pure ⟨_, rfl, fin _ z.heap.objs.size c out (fun b u e => ?_) more hc hout eo⟩
  have q := keep b u e
  have lt := Heap.lt_size q
  rw [sortedHeap_old (Nat.ne_of_lt lt) (by rw [size_push']; exact Nat.lt_succ_of_lt lt)]
  exact Heap.get?_push_of_some _ q
end
/-! ### data as keys -/
mutual
def nk : PyData → Option NestedKey
  | .none => some .none
  | .int i => some (.num i)
  | .str x => some (.text x)
  | .tuple xs => (nks xs).map .tup
  | _ => none
def nks : List PyData → Option (List NestedKey)
  | [] => some []
  | x :: xs => match nk x, nks xs with
    | some k, some ks => some (k :: ks)
    | _, _ => none
end
mutual
theorem nk_data : ∀ (x : PyData) (k : NestedKey), nk x = some k → k.data = x
  | .none, k, h => by simp only [nk, Option.some.injEq] at h; subst h; rfl
  | .int i, k, h => by simp only [nk, Option.some.injEq] at h; subst h; rfl
  | .str i, k, h => by simp only [nk, Option.some.injEq] at h; subst h; rfl
  | .tuple xs, k, h => by
    simp only [nk, Option.map_eq_some_iff] at h
    obtain ⟨ks, h, rfl⟩ := h
    rw [NestedKey.data, nks_data xs ks h]
  | .bool _, k, h => by simp [nk] at h
  | .list _, k, h => by simp [nk] at h
  | .dict _, k, h => by simp [nk] at h
theorem nks_data : ∀ (xs : List PyData) (ks : List NestedKey), nks xs = some ks → NestedKey.datas ks = xs
  | [], ks, h => by simp only [nks, Option.some.injEq] at h; subst h; rfl
  | x :: xs, ks, h => by
    rw [nks] at h
    split at h
    · rename_i k r h1 h2
      simp only [Option.some.injEq] at h
      subst h
      rw [NestedKey.datas, nk_data x k h1, nks_data xs r h2]
    · cases h
end
mutual
theorem nk_depth : ∀ (x : PyData) (k : NestedKey), nk x = some k → k.depth ≤ x.depth
  | .none, k, h => by simp only [nk, Option.some.injEq] at h; subst h; exact Nat.zero_le _
  | .int i, k, h => by simp only [nk, Option.some.injEq] at h; subst h; exact Nat.zero_le _
  | .str i, k, h => by simp only [nk, Option.some.injEq] at h; subst h; exact Nat.zero_le _
  | .tuple xs, k, h => by
    simp only [nk, Option.map_eq_some_iff] at h
    obtain ⟨ks, h, rfl⟩ := h
    have := nks_depth xs ks h
    simp only [NestedKey.depth, PyData.depth]
    omega
  | .bool _, k, h => by simp [nk] at h
  | .list _, k, h => by simp [nk] at h
  | .dict _, k, h => by simp [nk] at h
theorem nks_depth : ∀ (xs : List PyData) (ks : List NestedKey), nks xs = some ks → NestedKey.depthAll ks ≤ PyData.depthAll xs
  | [], ks, h => by simp only [nks, Option.some.injEq] at h; subst h; exact Nat.zero_le _
  | x :: xs, ks, h => by
    rw [nks] at h
    split at h
    · rename_i k r h1 h2
      simp only [Option.some.injEq] at h
      subst h
      have a := nk_depth x k h1
      have b := nks_depth xs r h2
      simp only [NestedKey.depthAll, PyData.depthAll]
      omega
    · cases h
end
section
variable {X : Cx} {pins : List (Addr × Obj)} {σ : L2.St} {H Z : Hp} {s : Shared}
mutual
theorem nk_at (I : Inv X pins σ H s) (sz : Mp.Sub Z H) : ∀ (x : PyData) (k : NestedKey) (v : V) (u : Value), nk x = some k → Mp.DR Z x v → RelV v u → NestedIs s.heap k u
  | .none, k, v, u, hk, h, r => by
    simp only [nk, Option.some.injEq] at hk
    subst hk
    simp only [Mp.DR] at h
    subst h
    cases r
    exact .none
  | .int i, k, v, u, hk, h, r => by
    simp only [nk, Option.some.injEq] at hk
    subst hk
    simp only [Mp.DR] at h
    subst h
    obtain ⟨t, rfl⟩ := r
    exact .int i t
  | .str i, k, v, u, hk, h, r => by
    simp only [nk, Option.some.injEq] at hk
    subst hk
    simp only [Mp.DR] at h
    subst h
    obtain ⟨t, rfl⟩ := r
    exact .text i t
  | .tuple xs, k, v, u, hk, h, r => by
    simp only [nk, Option.map_eq_some_iff] at hk
    obtain ⟨ks, hk, rfl⟩ := hk
    simp only [Mp.DR] at h
    obtain ⟨a, us, rfl, hz, hs⟩ := h
    cases r
    obtain ⟨its, rv, ⟨o, ho, hc, n, hd⟩, _⟩ := I.tuple (SqT.of (sz.tup hz))
    exact .tup ho hc hd (by simpa using nks_at I sz xs ks us its hk hs rv)
  | .bool _, k, v, u, hk, h, r => by simp [nk] at hk
  | .list _, k, v, u, hk, h, r => by simp [nk] at hk
  | .dict _, k, v, u, hk, h, r => by simp [nk] at hk
theorem nks_at (I : Inv X pins σ H s) (sz : Mp.Sub Z H) : ∀ (xs : List PyData) (ks : List NestedKey) (vs : List V) (us : List Value), nks xs = some ks → Mp.DRs Z xs vs → Vals vs us → NestedAll s.heap ks us
  | [], ks, vs, us, hk, h, r => by
    simp only [nks, Option.some.injEq] at hk
    subst hk
    rw [Mp.DRs.nil_iff.mp h] at r
    cases r
    exact .nil
  | x :: xs, ks, vs, us, hk, h, r => by
    rw [nks] at hk
    split at hk
    · rename_i k t h1 h2
      simp only [Option.some.injEq] at hk
      subst hk
      obtain ⟨v, l, rfl, d1, d2⟩ := Mp.DRs.cons_iff.mp h
      cases r with
      | cons r1 r2 => exact .cons (nk_at I sz x k v _ h1 d1 r1) (nks_at I sz xs t l _ h2 d2 r2)
    · cases hk
end
end
end Mr
end
section
/-! data in sets -/
namespace Mr
open PySem PySem.Spec PyProof.Rows L2 Mp
mutual
theorem kOk_nk : ∀ x : PyData, kOk x = true → ∃ k, nk x = some k
  | .none, _ => ⟨_, rfl⟩
  | .int i, _ => ⟨_, rfl⟩
  | .str i, _ => ⟨_, rfl⟩
  | .tuple xs, h => by
    simp only [kOk] at h
    obtain ⟨ks, e⟩ := kOks_nks xs h
    exact ⟨.tup ks, by simp only [nk, e, Option.map_some]⟩
  | .bool _, h => by simp [kOk] at h
  | .list _, h => by simp [kOk] at h
  | .dict _, h => by simp [kOk] at h
theorem kOks_nks : ∀ xs : List PyData, kOks xs = true → ∃ ks, nks xs = some ks
  | [], _ => ⟨[], rfl⟩
  | x :: xs, h => by
    simp only [kOks, Bool.and_eq_true] at h
    obtain ⟨k, e⟩ := kOk_nk x h.1
    obtain ⟨ks, e2⟩ := kOks_nks xs h.2
    exact ⟨k :: ks, by rw [nks, e, e2]⟩
end
mutual
theorem eqv_kOk : ∀ x y : PyData, kOk x = true → kOk y = true → PyData.eqv x y = true → x = y
  | .none, y, _, hy, h => by cases y <;> simp_all [kOk, PyData.eqv]
  | .int i, y, _, hy, h => by cases y <;> simp_all [kOk, PyData.eqv]
  | .str i, y, _, hy, h => by cases y <;> simp_all [kOk, PyData.eqv]
  | .tuple xs, y, hx, hy, h => by
    cases y with
    | tuple ys =>
      simp only [kOk] at hx hy
      simp only [PyData.eqv] at h
      rw [eqvAll_kOk xs ys hx hy h]
    | _ => simp_all [kOk, PyData.eqv]
  | .bool _, y, h, _, _ => by simp [kOk] at h
  | .list _, y, h, _, _ => by simp [kOk] at h
  | .dict _, y, h, _, _ => by simp [kOk] at h
theorem eqvAll_kOk : ∀ xs ys : List PyData, kOks xs = true → kOks ys = true → PyData.eqvAll xs ys = true → xs = ys
  | [], [], _, _, _ => rfl
  | [], _ :: _, _, _, h => by simp [PyData.eqvAll] at h
  | _ :: _, [], _, _, h => by simp [PyData.eqvAll] at h
  | x :: xs, y :: ys, hx, hy, h => by
    simp only [kOks, Bool.and_eq_true] at hx hy
    simp only [PyData.eqvAll, Bool.and_eq_true] at h
    rw [eqv_kOk x y hx.1 hy.1 h.1, eqvAll_kOk xs ys hx.2 hy.2 h.2]
end
mutual
theorem eqv_same : ∀ x : PyData, kOk x = true → PyData.eqv x x = true
  | .none, _ => by simp [PyData.eqv]
  | .int i, _ => by simp [PyData.eqv]
  | .str i, _ => by simp [PyData.eqv]
  | .tuple xs, h => by
    simp only [kOk] at h
    simp only [PyData.eqv]
    exact eqvAll_same xs h
  | .bool _, h => by simp [kOk] at h
  | .list _, h => by simp [kOk] at h
  | .dict _, h => by simp [kOk] at h
theorem eqvAll_same : ∀ xs : List PyData, kOks xs = true → PyData.eqvAll xs xs = true
  | [], _ => by simp [PyData.eqvAll]
  | x :: xs, h => by
    simp only [kOks, Bool.and_eq_true] at h
    simp only [PyData.eqvAll, Bool.and_eq_true]
    exact ⟨eqv_same x h.1, eqvAll_same xs h.2⟩
end
/-- what lies in the set, once each -/
theorem nub_all : ∀ (xs acc : List PyData), (∀ x ∈ xs, kOk x = true) → (∀ x ∈ acc, kOk x = true) → acc.Nodup → (nubD acc xs).Nodup ∧ ∀ x, x ∈ nubD acc xs ↔ x ∈ acc ∨ x ∈ xs
  | [], acc, _, _, nd => ⟨nd, fun x => by simp [nubD]⟩
  | x :: xs, acc, h1, h2, nd => by
    have hx := h1 x List.mem_cons_self
    have h1' : ∀ y ∈ xs, kOk y = true := fun y hy => h1 y (List.mem_cons_of_mem _ hy)
    rw [nubD]
    by_cases e : (acc.any fun y => PyData.eqv y x) = true
    · rw [if_pos e]
      obtain ⟨y, hy, e2⟩ := List.any_eq_true.mp e
      have e3 := eqv_kOk y x (h2 y hy) hx e2
      obtain ⟨a, b⟩ := nub_all xs acc h1' h2 nd
      refine ⟨a, fun z => ?_⟩
      rw [b, List.mem_cons]
      constructor
      · rintro (h | h)
        · exact .inl h
        · exact .inr (.inr h)
      · rintro (h | h | h)
        · exact .inl h
        · rw [h, ← e3]; exact .inl hy
        · exact .inr h
    · rw [if_neg e]
      have out : x ∉ acc := fun m => e (List.any_eq_true.mpr ⟨x, m, eqv_same x hx⟩)
      obtain ⟨a, b⟩ := nub_all xs (acc ++ [x]) h1' (fun y hy => by
        rcases List.mem_append.mp hy with h | h
        · exact h2 y h
        · rw [List.mem_singleton.mp h]; exact hx) (List.nodup_append.mpr ⟨nd, by simp, fun p hp q hq => by rw [List.mem_singleton.mp hq]; exact fun e => out (e ▸ hp)⟩)
      refine ⟨a, fun z => ?_⟩
      rw [b, List.mem_append, List.mem_singleton, List.mem_cons, or_assoc]
theorem short : ∀ (l m : List PyData), l.Nodup → (∀ x ∈ l, x ∈ m) → l.length ≤ m.length
  | [], m, _, _ => Nat.zero_le _
  | x :: l, m, nd, h => by
    obtain ⟨a, b, rfl⟩ := List.append_of_mem (h x List.mem_cons_self)
    rw [List.nodup_cons] at nd
    have q := short l (a ++ b) nd.2 fun y hy => by
      have z := h y (List.mem_cons_of_mem _ hy)
      rw [List.mem_append, List.mem_cons] at z
      rw [List.mem_append]
      rcases z with z | z | z
      · exact .inl z
      · exact absurd (z ▸ hy) nd.1
      · exact .inr z
    simp only [List.length_cons, List.length_append] at q ⊢
    omega
theorem perm_map_back {α β : Type} {f : α → β} {l m : List β} (p : l.Perm m) : ∀ L : List α, m = L.map f → ∃ L' : List α, L'.Perm L ∧ l = L'.map f := by
  induction p with
  | nil =>
    intro L e
    cases L with
    | nil => exact ⟨[], List.Perm.refl _, rfl⟩
    | cons => cases e
  | cons x _ ih =>
    intro L e
    cases L with
    | nil => cases e
    | cons y L =>
      rw [List.map_cons] at e
      injection e with e1 e2
      obtain ⟨L', p', e'⟩ := ih L e2
      exact ⟨y :: L', p'.cons y, by rw [List.map_cons, e', e1]⟩
  | swap x y l =>
    intro L e
    cases L with
    | nil => cases e
    | cons a L =>
      cases L with
      | nil => cases e
      | cons b L =>
        simp only [List.map_cons] at e
        injection e with e1 e2
        injection e2 with e2 e3
        exact ⟨b :: a :: L, List.Perm.swap _ _ _, by rw [List.map_cons, List.map_cons, e1, e2, e3]⟩
  | trans _ _ ih1 ih2 =>
    intro L e
    obtain ⟨L2, p2, e2⟩ := ih2 L e
    obtain ⟨L1, p1, e1⟩ := ih1 L2 e2
    exact ⟨L1, p1.trans p2, e1⟩
/-- a key with its tuple -/
def Held (Z : Hp) (p : NestedKey × Addr) : Prop := nk p.1.data = some p.1 ∧ DR Z p.1.data (.ref p.2) ∧ p.1.depth ≤ 8 ∧ kOk p.1.data = true
theorem held_of {Z : Hp} : ∀ {xs : List PyData} {us : List V}, DRs Z xs us → (∀ x ∈ xs, ∃ ys, x = .tuple ys ∧ kOks ys = true ∧ x.depth ≤ 8) →
    ∃ ks : List (NestedKey × Addr), us = ks.map (fun p => V.ref p.2) ∧ xs = ks.map (fun p => p.1.data) ∧ ∀ p ∈ ks, Held Z p
  | [], us, h, _ => ⟨[], DRs.nil_iff.mp h, rfl, fun p hp => nomatch hp⟩
  | x :: xs, us, h, k => by
    obtain ⟨u, r, rfl, h1, h2⟩ := DRs.cons_iff.mp h
    obtain ⟨ks, e1, e2, hk⟩ := held_of h2 fun y hy => k y (List.mem_cons_of_mem _ hy)
    obtain ⟨ys, rfl, hy, hd⟩ := k x List.mem_cons_self
    have ok : kOk (.tuple ys) = true := by simpa only [kOk] using hy
    obtain ⟨key, e⟩ := kOk_nk _ ok
    have dt := nk_data _ _ e
    have h1' := h1
    simp only [DR] at h1'
    obtain ⟨a, us, rfl, _⟩ := h1'
    refine ⟨(key, a) :: ks, by rw [List.map_cons, e1], by rw [List.map_cons, e2, dt], fun p hp => ?_⟩
    rcases List.mem_cons.mp hp with rfl | hp
    · exact ⟨by rw [dt]; exact e, by rw [dt]; exact h1, Nat.le_trans (nk_depth _ _ e) hd, by rw [dt]; exact ok⟩
    · exact hk p hp
theorem set_parts {xs : List PyData} (h : setOk xs = true) : (∀ x ∈ xs, ∃ ys, x = .tuple ys ∧ kOks ys = true ∧ x.depth ≤ 8) ∧ xs.length ≤ sizeLine ∧ (nubD [] xs).length < 64 := by
  unfold setOk at h
  rw [Bool.and_eq_true, Bool.and_eq_true, List.all_eq_true, decide_eq_true_eq] at h
  refine ⟨fun x hx => ?_, by first | exact h.1.2 | exact of_decide_eq_true h.1.2, by first | exact h.2 | exact of_decide_eq_true h.2⟩
  have q := h.1.1 x hx
  split at q
  · rw [Bool.and_eq_true, decide_eq_true_eq] at q
    exact ⟨_, rfl, q.1, q.2⟩
  · cases q
theorem data_inj {Z : Hp} {ks : List (NestedKey × Addr)} (hk : ∀ p ∈ ks, Held Z p) : ∀ a ∈ ks.map Prod.fst, ∀ b ∈ ks.map Prod.fst, a.data = b.data → a = b := fun a ha b hb e => by
  obtain ⟨p, hp, rfl⟩ := List.mem_map.mp ha
  obtain ⟨q, hq, rfl⟩ := List.mem_map.mp hb
  have e1 := (hk p hp).1
  rw [e, (hk q hq).1] at e1
  exact (Option.some.inj e1).symm
theorem nodup_map_on {α β : Type} {f : α → β} : ∀ {l : List α}, l.Nodup → (∀ a ∈ l, ∀ b ∈ l, f a = f b → a = b) → (l.map f).Nodup
  | [], _, _ => List.nodup_nil
  | a :: l, nd, inj => by
    rw [List.nodup_cons] at nd
    rw [List.map_cons, List.nodup_cons]
    refine ⟨fun m => ?_, nodup_map_on nd.2 fun x hx y hy => inj x (List.mem_cons_of_mem _ hx) y (List.mem_cons_of_mem _ hy)⟩
    obtain ⟨b, hb, e⟩ := List.mem_map.mp m
    exact nd.1 (inj b (List.mem_cons_of_mem _ hb) a List.mem_cons_self e ▸ hb)
end Mr
end
section
/-! set(xs), sorted(of a set), over the abstract heap -/
namespace Mr
open PySem PySem.Spec PyProof.Rows L2 Mp
section
variable {P : Program} {w : World}
/-- the set's own object -/
def Bare (P : Program) (w : World) (h : Heap) (a : Addr) (L : List (NestedKey × Addr)) : Prop := ∃ (es : Array (Int × Value)) (ep : Nat) (t : SetTable), (∃ o, h.get? a = some o ∧ o.ExactSet ∧ o.data = .set es ep t) ∧
  es.toList = L.map (row (nestedKind P w)) ∧ TabOk t (L.map fun p => (nestedKind P w).hash p.1) ∧ (L.map Prod.fst).Nodup ∧ (w.params.followText "set-order" = true ∨ t.led = true) ∧ L.length * 5 < t.mask * 3 ∧ L.length < 64
def PoolO (P : Program) (w : World) (a : Addr) (L : List (NestedKey × Addr)) : HO := .ext fun h => Bare P w h a L
theorem poolO_ok {H : Hp} {h : Heap} {a : Addr} {L : List (NestedKey × Addr)} (b : Bare P w h a L) : ObjOk P w H h a (PoolO P w a L) := by
  have ⟨es, ep, t, ⟨o, ho, r⟩, q⟩ := b
  exact ⟨b, ⟨o, ho⟩, fun h1 h2 ⟨es, ep, t, ⟨o, ho, r⟩, q⟩ k => ⟨es, ep, t, ⟨o, k o ho, r⟩, q⟩⟩
end
section
variable {X : Cx}
def rSetP (X : Cx) : List V → Hp → VK → Prop := fun vs H Q => ∃ (l : Addr) (us : List V) (xs : List PyData) (Z : Hp), vs = [V.ref l] ∧ Mp.Sub Z H ∧ SqL X.K H l us ∧ DRs Z xs us ∧ setOk xs = true ∧
  ∀ a L, H a = none → (∀ p ∈ L, Held Z p) → (L.map fun p => p.1.data).Perm (nubD [] xs) → Q (.ref a) (upd H a (PoolO X.prog X.w a L))
theorem cr_setP (hc : X.calm = true) (hu : X.A.units + 64 < cLine) : CallR X (.type "set") (rSetP X) := by
  intro pins s σ H vs us Q I r h
  obtain ⟨l, ws, xs, Z, rfl, sz, hl, hd, ok, q⟩ := h
  obtain ⟨hx, hlen, few⟩ := set_parts ok
  obtain ⟨ks, rfl, e2, hk⟩ := held_of hd hx
  obtain ⟨its, rv, pl, hz⟩ := I.list hl
  obtain ⟨u, rfl, ru⟩ := vals1 r
  cases ru
  have refs : ∀ (L : List (NestedKey × Addr)) {vs : List Value}, Vals (L.map fun p => V.ref p.2) vs → vs = L.map fun p => Value.ref p.2 := by
    intro L
    induction L with
    | nil => intro vs h; cases h; rfl
    | cons p L ih => intro vs h; cases h with
      | cons a b => cases a; rw [List.map_cons, ih b]
  have allk : ∀ x ∈ xs, kOk x = true := fun x hx => by
    rw [e2] at hx
    obtain ⟨p, hp, rfl⟩ := List.mem_map.mp hx
    exact (hk p hp).2.2.2
  obtain ⟨nd, mem⟩ := nub_all xs [] allk (fun _ h => nomatch h) List.nodup_nil
  have inj := data_inj hk
  have keyin : ∀ k ∈ ks.map Prod.fst, k.data ∈ xs := fun k hk => by
    obtain ⟨p, hp, rfl⟩ := List.mem_map.mp hk
    rw [e2]
    exact List.mem_map.mpr ⟨p, hp, rfl⟩
  refine call_pool (P := X.prog) (w := X.w) (knd := nestedKind X.prog X.w) fit_nested (ks := ks) (I.ok.hd hc) pl.isList (by simpa using refs ks rv) (fun p hp => ⟨nk_at I sz p.1.data p.1 (.ref p.2) (.ref p.2) (hk p hp).1 (hk p hp).2.1 rfl, (hk p hp).2.2.1⟩)
    (fun M hM sub => ?_) (fun B hB => by show B.units + 8 < cLine; omega) fun z lz => ?_
  · have n1 : (M.map NestedKey.data).Nodup := nodup_map_on hM fun a ha b hb => inj a (sub a ha) b (sub b hb)
    have n2 := short _ (nubD [] xs) n1 fun x hx => by
      obtain ⟨k, hk, rfl⟩ := List.mem_map.mp hx
      exact (mem _).mpr (.inr (keyin k (sub k hk)))
    rw [List.length_map] at n2
    omega
  · obtain ⟨h', tk, L, es, ep, t, rfl, R, f, keep⟩ := lz
    have hn : H s.heap.objs.size = none := I.hok.fresh (Nat.le_refl _)
    have hL : ∀ p ∈ L, Held Z p := fun p hp => hk p (f.1 p hp)
    refine ⟨.ref s.heap.objs.size, upd H s.heap.objs.size (PoolO X.prog X.w s.heap.objs.size L), I.laid (t' := tk) keep (Nat.le_refl _) (poolO_ok ⟨es, ep, t, R.obj, R.rows, R.tab, R.once, R.led, R.room, R.few⟩), rfl, q _ L hn hL ?_⟩
    have n1 : (L.map fun p => p.1.data).Nodup := by
      have := nodup_map_on (f := NestedKey.data) R.once (data_inj hL)
      rwa [List.map_map] at this
    refine (List.perm_ext_iff_of_nodup n1 nd).mpr fun x => ?_
    rw [mem]
    constructor
    · intro hx
      obtain ⟨p, hp, rfl⟩ := List.mem_map.mp hx
      exact .inr (keyin _ (List.mem_map.mpr ⟨p, f.1 p hp, rfl⟩))
    · rintro (hx | hx)
      · cases hx
      · rw [e2] at hx
        obtain ⟨p, hp, rfl⟩ := List.mem_map.mp hx
        obtain ⟨p2, hp2, e⟩ := List.mem_map.mp (f.2 p hp)
        exact List.mem_map.mpr ⟨p2, hp2, by rw [e]⟩
def rSortP (X : Cx) : List V → Hp → VK → Prop := fun vs H Q => ∃ (a : Addr) (L : List (NestedKey × Addr)) (xs : List PyData) (Z : Hp), vs = [V.ref a] ∧ H a = some (PoolO X.prog X.w a L) ∧ Mp.Sub Z H ∧ (∀ p ∈ L, Held Z p) ∧ (L.map fun p => p.1.data).Perm xs ∧ sortOk xs = true ∧
  ∀ ws p, H p = none → DRs Z (srt xs) ws → Q (.ref p) (upd H p (.lst ws))
/-- what is gathered, sorted -/
theorem sort_gathered (hb : ModB X) (hu : X.A.units + 65 < cLine) {pins : List (Addr × Obj)} {s : Shared} {σ : L2.St} {H Z : Hp} {Q : VK} {u : Value} {G : List Value → Shared → Prop} (I : Inv X pins σ H s) (sz : Mp.Sub Z H) {xs : List PyData} (ok : sortOk xs = true)
    (col : wpAny (model X.prog X.w) X.A.in1 (collect u) G X.xe s)
    (got : ∀ vs z, G vs z → (∀ b o, s.heap.get? b = some o → z.heap.get? b = some o) ∧ s.heap.objs.size ≤ z.heap.objs.size ∧ z.gens = s.gens ∧ z.os = s.os ∧ ∃ ps : List (PyData × V), (ps.map Prod.fst).Perm xs ∧ (∀ p ∈ ps, DR Z p.1 p.2) ∧ Vals (ps.map Prod.snd) vs)
    (q : ∀ ws p, H p = none → DRs Z (srt xs) ws → Q (.ref p) (upd H p (.lst ws))) : wpAny (model X.prog X.w) X.A (call (.builtin "sorted") [u]) (EP X pins σ Q) X.xe s := by
  unfold sortOk at ok
  rw [Bool.and_eq_true, Bool.and_eq_true, Bool.and_eq_true, List.all_eq_true] at ok
  obtain ⟨⟨⟨o1, o2⟩, o3⟩, o4⟩ := ok
  have al := allAlike_of o1
  refine sorted_any col fun vs z g => ?_
  obtain ⟨keep, more, e1, e2, ps, pm, hd, rv⟩ := got vs z g
  have len : ps.length ≤ sizeLine := by
    have := pm.length_eq
    rw [List.length_map] at this
    rw [this]
    exact of_decide_eq_true o3
  have each : ∀ (ps : List (PyData × V)) {vs : List Value}, (∀ p ∈ ps, DR Z p.1 p.2) → Vals (ps.map Prod.snd) vs → PySem.W.EachIs (fun v (b : PyData × V) => RelV b.2 v ∧ ∃ as, Reads z.heap v b.1 as) vs ps := by
    intro ps
    induction ps with
    | nil => intro vs _ h; cases h; exact .nil
    | cons p ps ih =>
      intro vs hd h
      cases h with
      | cons a b =>
        obtain ⟨as, r, _⟩ := DR.reads I hb sz p.1 p.2 _ (hd p List.mem_cons_self) a
        exact .cons ⟨a, as, PyProof.Rows.Reads.keeps keep r⟩ (ih (fun q hq => hd q (List.mem_cons_of_mem _ hq)) b)
  refine ⟨ps, keep, more, each ps hd rv, fun a ha b hb => al a (pm.mem_iff.mp ha) b (pm.mem_iff.mp hb), ?_, len, fun b hb => ?_, fun h' p c out k hp hc hout eo => ?_⟩
  · rcases sortable_of o2 with h | h
    · exact .inl fun d hd => h d (pm.mem_iff.mp hd)
    · exact .inr fun d hd => h d (pm.mem_iff.mp hd)
  · have q := o4 _ (pm.mem_iff.mp (List.mem_map.mpr ⟨b, hb, rfl⟩))
    rw [Bool.and_eq_true, decide_eq_true_eq] at q
    omega
  · have er : (ps.mergeSort (PySem.W.dataLe false Prod.fst)).map Prod.fst = srt xs := by
      have z1 := PySem.W.sort_maps (r := PySem.W.dataLe false Prod.fst) (s := PySem.W.dataLe false id) (l := ps) Prod.fst (fun _ _ _ _ => rfl)
      rw [z1]
      unfold srt
      exact srt_one pm fun a ha b hb => al a (pm.mem_iff.mp ha) b (pm.mem_iff.mp hb)
    have dr : DRs Z (srt xs) ((ps.mergeSort (PySem.W.dataLe false Prod.fst)).map Prod.snd) := by
      rw [← er]
      exact DRs.of_pairs fun p hp => hd p (List.mem_mergeSort.mp hp)
    have hlen : ((ps.mergeSort (PySem.W.dataLe false Prod.fst)).map Prod.snd).length ≤ sizeLine := by
      rw [List.length_map, List.length_mergeSort]
      exact len
    have hn : H p = none := I.hok.fresh hp
    have J : Inv X pins σ (upd H p (.lst ((ps.mergeSort (PySem.W.dataLe false Prod.fst)).map Prod.snd))) { s with heap := h', gens := z.gens, drawn := z.drawn, toks := z.toks } :=
      I.call (ch := []) (Un.laid k hp hn) (I.hok.laid k hp ⟨hlen, out, c, vals_each eo, hc⟩) (by rw [e1]; exact I.bare) (fun _ z => nomatch z)
    have e : { z with heap := h' } = { s with heap := h', gens := z.gens, drawn := z.drawn, toks := z.toks } := by
      cases z
      cases s
      cases e2
      rfl
    rw [e]
    exact ⟨.ref p, _, J, rfl, q _ p hn dr⟩
theorem cr_sortP (hb : ModB X) (hc : X.calm = true) (hu : X.A.units + 65 < cLine) : CallR X (.builtin "sorted") (rSortP X) := by
  intro pins s σ H vs us Q I r h
  obtain ⟨a, L, xs, Z, rfl, ha, sz, hk, pm, ok, q⟩ := h
  obtain ⟨u, rfl, ru⟩ := vals1 r
  cases ru
  obtain ⟨es, ep, t, ⟨o, ho, hex, hd⟩, rows, tab, once, led, room, few⟩ : Bare X.prog X.w s.heap a L := (I.hok a _ ha).1
  have zs := tab.sz
  rw [List.length_map] at zs
  have hl := rows_len rows
  refine sort_gathered hb hu I sz ok (collect_set (A := X.A.in1) (I.ok.hd hc) ⟨o, ho, hex.1, hd⟩ (by rw [hl]; exact fits_of zs tab.dm (by omega)) (by rw [hl]; unfold scanBound; omega) tab.ris led
    (fun z out k n g os p => (⟨k, n, g, os, p⟩ : (∀ b o, s.heap.get? b = some o → z.heap.get? b = some o) ∧ s.heap.objs.size ≤ z.heap.objs.size ∧ z.gens = s.gens ∧ z.os = s.os ∧ out.Perm (es.toList.map (·.2)))))
    (fun vs z ⟨k, n, g, os, p⟩ => ?_) q
  rw [rows, List.map_map] at p
  obtain ⟨L', p', e'⟩ := perm_map_back p L rfl
  refine ⟨k, n, g, os, L'.map fun p => (p.1.data, V.ref p.2), ?_, fun p hp => ?_, ?_⟩
  · rw [List.map_map]
    exact (p'.map _).trans pm
  · obtain ⟨r, hr, rfl⟩ := List.mem_map.mp hp
    exact (hk r (p'.mem_iff.mp hr)).2.1
  · rw [List.map_map, e']
    clear p' e' p
    induction L' with
    | nil => exact .nil
    | cons x L' ih => exact .cons rfl ih
end
end Mr
end
section
/-! sorted(set(e)), sorted(e.values()) in the small Python -/
namespace Mr
open PySem PySem.Spec PyProof.Rows L2 Mp
section
variable {X : Cx} {Γ : Nat → List Val → M Val} {gl : List PyData}
theorem s_sset (c : CxB X) (hg : Blt X "sorted") (hg2 : Blt X "set") {e : Expr} {a : Ex} {p p2 pos pos2 : Pos} (ha : PE X e (semE X.K Γ gl a)) (he : isStar e = false) :
    PE X (.Call (.Name "sorted" p) [.Call (.Name "set" p2) [e] [] pos2] [] pos) (semE X.K Γ gl (.b1 .sset a)) :=
  PE.imp (pe_callB (cr_sortP c.hb c.calm c.hu) hg.1 hg.2 (by decide +kernel)
      (pa_one (pe_callTy (cr_setP c.calm (by have := c.hu; omega)) hg2.1 hg2.2 (by decide +kernel) (pa_one ha he) (by decide) (by decide) (star_ok he [] X.env) (back_all [] X.env pos2 rfl)) rfl)
      (by decide) (by decide) (star_ok rfl [] X.env) (back_all [] X.env pos rfl)) fun σ H Q ⟨env, S, v, S', m, Z, h, r, w, f⟩ => by
    obtain ⟨v1, S1, h1, h2⟩ := bnd_ok (show bnd (eval Γ gl a env) (fun v => bnd (peek v) fun x => bnd (b1D .sset x) dat) S = .ok v S' from h)
    obtain ⟨x, S2, h3, h4⟩ := bnd_ok h2
    obtain ⟨y, S3, h5, h6⟩ := bnd_ok h4
    obtain ⟨rfl, p1⟩ := peek_ok (K := X.K) h3
    cases x with
    | list xs =>
      obtain ⟨_, S4, g1, g2⟩ := bnd_ok (show bnd (guard (setOk xs)) (fun _ => sortD (nubD [] xs)) _ = .ok y S3 from h5)
      obtain ⟨ok, rfl⟩ := guard_ok g1
      obtain ⟨rfl, rfl, so⟩ := sort_ok g2
      show tCons (semE X.K Γ gl a) tNil σ H fun vs H1 => rSetP X vs H1 fun x H2 => rSortP X [x] H2 Q
      refine one_sem h1 r w fun u m1 Z1 H1 n1 r1 w1 q1 => ?_
      obtain ⟨l, us, rfl, k1, k2⟩ := PR.list_iff.mp (p1 r1 q1)
      refine ⟨l, us, xs, Z1, rfl, r1.sub, SqL.of k1, k2, ok, fun a0 L hn hL pm => ?_⟩
      obtain ⟨r2, n2⟩ := r1.newH (o := PoolO X.prog X.w a0 L) hn
      exact ⟨a0, L, nubD [] xs, Z1, rfl, upd_same, r2.sub, hL, pm, so, fun ws p hp d => RQ.lst r2 (f.rq h6 (n1.trans n2)) d hp⟩
    | _ => exact nomatch (show (R.no : R PyData) = .ok y S3 from h5)
def tSortVals (K : PySem.W.Frag) (td : TE) : TE := fun σ H Q => td σ H fun x H1 => ∃ (a : Addr) (kvs : List (Key × V)) (xs : List PyData) (Z : Hp), x = V.ref a ∧ Rd H1 a (.dK kvs) ∧ Mp.Sub Z H1 ∧ DRs Z xs (kvs.map (·.2)) ∧ sortOk xs = true ∧
  ∀ ws p, H1 p = none → DRs Z (srt xs) ws → Q (.ref p) (upd H1 p (.lst ws))
theorem kv_snd : ∀ {kvs : List (Key × V)} {vs : List (Key × Value)}, KV kvs vs → Vals (kvs.map (·.2)) (vs.map (·.2))
  | _, _, .nil => .nil
  | _, _, .cons h t => .cons h.2 (kv_snd t)
variable {o : Expr} {p pos apos mpos : Pos} {td : TE}
theorem pe_sortVals (c : CxB X) (hg : Blt X "sorted") (hd : PE X o td) (hbase : attributeBase o "values" X.env (eval o X.env) = eval o X.env) (hline : (apos.endLine == mpos.line) = true)
    (hse : starEach [Expr.Call (.Attribute o "values" apos) [] [] mpos] X.env = [(false, eval (Expr.Call (.Attribute o "values" apos) [] [] mpos) X.env)] := by rfl) :
    PE X (.Call (.Name "sorted" p) [.Call (.Attribute o "values" apos) [] [] mpos] [] pos) (tSortVals X.K td) := by
  refine ⟨fun pins s σ H Q I h => ?_⟩
  refine wpAny_Call_Name_kw (ld_blt I hg.1 hg.2 (u := .builtin "sorted") (by first | rfl | decide +kernel) ?_ (by first | decide +kernel | decide) (by first | decide +kernel | decide))
  rw [hse]
  refine PySem.callWith_builtin1 (wpAny_Call_method0_late hbase hline (thn (hd.run pins s σ H _ I h) fun v z ⟨x, H1, J, r1, a, kvs, xs, Z, ex, ha, sz, hv, ok, q⟩ => ?_))
  subst ex
  obtain rfl : v = Value.ref a := r1
  obtain ⟨hlen, hsys, vs, rel, dof⟩ := dk_rd J.hok ha
  obtain ⟨ep, dat⟩ := dof.dictAt
  have dat' := dat
  obtain ⟨ob, es, ho, ex, hdat, hko, hpr, hnd⟩ := dat'
  refine ⟨"dict", "dict.values", F.plainAttrs_dict, F.slot_dict_values, F.type_dict_values, ⟨ob, ho, ex.1⟩, fun b e => ?_, Calls.callWith_builtin rfl (PySem.evalArgs_none ?_)⟩
  · cases e
    exact ⟨ob, ho, ex.2.1⟩
  refine call_meetsIn F.slot_dict_values ⟨ob, ho, ex.1⟩ F.entry_dict_values (F.args_dict_values_1 _) (meets_dict_values (mixKind X.prog X.w) a hsys) ⟨⟨vs, dof⟩, ?_⟩
  have k1 : ∀ b u, z.heap.get? b = some u → (z.heap.push { cls := .type "dict_values", data := .fields #[.ref a] }).get? b = some u := fun b u e => Heap.get?_push_of_some _ e
  have dat1 : (z.heap.push { cls := .type "dict_values", data := .fields #[.ref a] }).DictAt (mixKind X.prog X.w) a vs ep := dat.keep k1
  have view : (z.heap.push { cls := .type "dict_values", data := .fields #[.ref a] }).get? z.heap.objs.size = some { cls := .type "dict_values", data := .fields #[.ref a] } := Heap.get?_push_size _ rfl
  have hl : vs.length ≤ sizeLine := by rw [← KV.length rel]; exact hlen
  have J2 : Inv X pins σ H1 { z with heap := z.heap.push { cls := .type "dict_values", data := .fields #[.ref a] }, toks := z.toks } := J.kept (t' := z.toks) k1
  refine sort_gathered (G := fun us y => (∀ b o, (z.heap.push { cls := .type "dict_values", data := .fields #[.ref a] }).get? b = some o → y.heap.get? b = some o) ∧ y.gens = z.gens ∧ y.os = z.os ∧ ∃ acc : Array Value, us = acc.toList ∧ PySem.ItemsOf (fun i v => ∃ k, vs[i]? = some (k, v)) acc vs.length) c.hb c.hu J2 sz ok
    (PySem.W.kdu_collect (A := X.A.in1) (PySem.W.kdl_values (knd := mixKind X.prog X.w) (r := z.heap.objs.size) (d := a) (kvs := vs) (ep := ep)) (J.ok.hd c.calm) ⟨⟨_, view, rfl, rfl⟩, dat1⟩ hl fun h' tk acc keep it => ⟨keep, rfl, rfl, acc, rfl, it⟩)
    (fun us y ⟨keep, e1, e2, acc, e3, it⟩ => ?_) q
  have eus : us = vs.map (·.2) := by
    rw [e3]
    refine List.ext_getElem? fun i => ?_
    rw [List.getElem?_map, Array.getElem?_toList]
    cases e : acc[i]? with
    | none =>
      have : vs.length ≤ i := by
        have q2 := it.1
        have q3 := Array.getElem?_eq_none_iff.mp e
        omega
      rw [List.getElem?_eq_none this]
      rfl
    | some v =>
      obtain ⟨k, e4⟩ := it.2 i v e
      rw [e4]
      rfl
  obtain ⟨d1, d2⟩ := hv.zip
  refine ⟨keep, ?_, e1, e2, xs.zip (kvs.map (·.2)), by rw [d1], d2, ?_⟩
  · rw [show (z.heap.push { cls := .type "dict_values", data := .fields #[.ref a] }).objs.size = z.heap.objs.size + 1 from Heap.size_push ..]
    exact Heap.lt_size (keep _ _ view)
  · rw [List.map_snd_zip (by rw [hv.length]; exact Nat.le_refl _), eus]
    exact kv_snd rel
theorem drk_vals {Z : Hp} : ∀ {kvs : List (PyData × PyData)} {ws : List (Key × V)}, DRk Z kvs ws → DRs Z (kvs.map (·.2)) (ws.map (·.2))
  | [], ws, h => by simp only [DRk] at h; subst h; exact DRs.nil
  | (k, x) :: r, ws, h => by
    simp only [DRk] at h
    obtain ⟨k', u, t, rfl, _, h1, h2⟩ := h
    exact DRs.cons h1 (drk_vals h2)
theorem s_svals (c : CxB X) (hg : Blt X "sorted") {a : Ex} (ha : PE X o (semE X.K Γ gl a)) (hb : isCallE o = false) (hl : (apos.endLine == mpos.line) = true) :
    PE X (.Call (.Name "sorted" p) [.Call (.Attribute o "values" apos) [] [] mpos] [] pos) (semE X.K Γ gl (.b1 .svals a)) :=
  PE.imp (pe_sortVals c hg ha (base_ok hb _ _ _) hl) fun σ H Q ⟨env, S, v, S', m, Z, h, r, w, f⟩ => by
    obtain ⟨v1, S1, h1, h2⟩ := bnd_ok (show bnd (eval Γ gl a env) (fun v => bnd (peek v) fun x => bnd (b1D .svals x) dat) S = .ok v S' from h)
    obtain ⟨x, S2, h3, h4⟩ := bnd_ok h2
    obtain ⟨y, S3, h5, h6⟩ := bnd_ok h4
    obtain ⟨rfl, p1⟩ := peek_ok (K := X.K) h3
    cases x with
    | dict kvs =>
      obtain ⟨_, S4, g1, g2⟩ := bnd_ok (show bnd (guard ((kvs.all fun p => keyAtom p.1) && !kvs.isEmpty)) (fun _ => sortD (kvs.map (·.2))) _ = .ok y S3 from h5)
      obtain ⟨ok, rfl⟩ := guard_ok g1
      obtain ⟨rfl, rfl, so⟩ := sort_ok g2
      rw [Bool.and_eq_true] at ok
      refine semE.at_ h1 r w fun u m1 Z1 H1 n1 r1 w1 q1 => ?_
      obtain ⟨l, rfl, ⟨ws, k1, k2⟩ | ⟨ws, k1, k2⟩⟩ := p1 r1 q1
      · exact ⟨l, ws, kvs.map (·.2), Z1, rfl, k1.rd, r1.sub, drk_vals k2, so, fun us p hp d => RQ.lst r1 (f.rq h6 n1) d hp⟩
      · obtain ⟨rfl, _⟩ := drt_atoms k2 ok.1
        cases ok.2
    | _ => exact nomatch (show (R.no : R PyData) = .ok y S3 from h5)
end
end Mr
end
section
/-! displays of dicts in the small Python -/
namespace Mr
open PySem PySem.Spec PyProof.Rows L2 Mp
def flatD : List (Option Expr) → List Expr → Option (List Expr)
  | [], [] => some []
  | some k :: ks, v :: vs => (flatD ks vs).map fun r => k :: v :: r
  | _, _ => none
theorem flat_cons : ∀ {ks : List (Option Expr)} {vs : List Expr} {x : Expr} {l : List Expr}, flatD ks vs = some (x :: l) → ∃ ks' v vs' l', ks = some x :: ks' ∧ vs = v :: vs' ∧ l = v :: l' ∧ flatD ks' vs' = some l'
  | [], [], x, l, h => by cases h
  | [], _ :: _, x, l, h => by cases h
  | none :: _, _, x, l, h => by cases h
  | some k :: ks, [], x, l, h => by cases h
  | some k :: ks, v :: vs, x, l, h => by
    rw [flatD, Option.map_eq_some_iff] at h
    obtain ⟨r, h, e⟩ := h
    cases e
    exact ⟨ks, v, vs, r, rfl, rfl, rfl, h⟩
theorem flat_nil : ∀ {ks : List (Option Expr)} {vs : List Expr}, flatD ks vs = some [] → ks = [] ∧ vs = []
  | [], [], h => ⟨rfl, rfl⟩
  | [], _ :: _, h => by cases h
  | none :: _, _, h => by cases h
  | some k :: ks, [], h => by cases h
  | some k :: ks, v :: vs, h => by
    rw [flatD, Option.map_eq_some_iff] at h
    obtain ⟨r, h, e⟩ := h
    cases e
def flatV : List (V × V) → List V
  | [] => []
  | (k, v) :: r => k :: v :: flatV r
theorem two_ok {Z : Hp} {S S' : Store} : ∀ {xs : List PyData} {ps : List (V × V)} {acc kvs : List (PyData × PyData)} {ws : List (Key × V)}, twoD acc xs S = .ok kvs S' → DRs Z xs (flatV ps) → DRk Z acc ws →
    S' = S ∧ ∃ more : List (Key × V), ps = more.map (fun kv => (kV kv.1, kv.2)) ∧ DRk Z kvs (mergeK ws more)
  | [], ps, acc, kvs, ws, h, d, a => by
    obtain ⟨rfl, rfl⟩ := ret_ok h
    have e := DRs.nil_iff.mp d
    cases ps with
    | nil => exact ⟨rfl, [], rfl, a⟩
    | cons p r => obtain ⟨_, _⟩ := p; cases e
  | [x], ps, acc, kvs, ws, h, d, a => nomatch (show (R.no : R (List (PyData × PyData))) = .ok kvs S' from h)
  | k :: v :: r, ps, acc, kvs, ws, h, d, a => by
    obtain ⟨_, S1, g1, g2⟩ := bnd_ok (show bnd (guard (keyAtom k)) (fun _ => twoD (putD acc k v) r) S = .ok kvs S' from h)
    obtain ⟨e, e0⟩ := guard_ok g1
    rw [e0] at g2
    obtain ⟨ku, r1, e1, d1, t1⟩ := DRs.cons_iff.mp d
    obtain ⟨vu, r2, rfl, d2, t2⟩ := DRs.cons_iff.mp t1
    cases ps with
    | nil => cases e1
    | cons p ps =>
      obtain ⟨p1, p2⟩ := p
      simp only [flatV, List.cons.injEq] at e1
      obtain ⟨rfl, rfl, rfl⟩ := e1
      obtain ⟨k', hk, rfl⟩ := keyK_of e d1
      obtain ⟨e4, more, e2, e3⟩ := two_ok g2 t2 (DRk.put hk d2 a)
      exact ⟨e4, (k', p2) :: more, by rw [e2]; rfl, e3⟩
section
variable {X : Cx} {Γ : Nat → List Val → M Val} {gl : List PyData}
inductive PEs (X : Cx) (Γ : Nat → List Val → M Val) (gl : List PyData) : Exs → List Expr → Prop
  | nil : PEs X Γ gl .nil []
  | cons {e : Ex} {es : Exs} {x : Expr} {xs : List Expr} : PE X x (semE X.K Γ gl e) → PEs X Γ gl es xs → PEs X Γ gl (.cons e es) (x :: xs)
def trsOf (K : PySem.W.Frag) (Γ : Nat → List Val → M Val) (gl : List PyData) : Exs → List (TE × TE)
  | .cons k (.cons v es) => (semE K Γ gl k, semE K Γ gl v) :: trsOf K Γ gl es
  | _ => []
theorem pps_of {pos : Pos} : ∀ {ks : List (Option Expr)} {vs : List Expr} {l : List Expr} {es : Exs}, flatD ks vs = some l → PEs X Γ gl es l → PPs X pos ks vs (trsOf X.K Γ gl es) ∧ (ks.all (·.isSome)) = true ∧ ks.length = vs.length
  | [], [], l, es, h, q => by
    cases h
    cases q
    exact ⟨pps_nil, rfl, rfl⟩
  | [], _ :: _, l, es, h, q => by cases h
  | none :: _, _, l, es, h, q => by cases h
  | some k :: ks, [], l, es, h, q => by cases h
  | some k :: ks, v :: vs, l, es, h, q => by
    rw [flatD, Option.map_eq_some_iff] at h
    obtain ⟨r, h, rfl⟩ := h
    cases q with
    | cons q1 q2 =>
      cases q2 with
      | cons q2 q3 =>
        obtain ⟨a, b, c⟩ := pps_of h q3
        exact ⟨pps_cons q1 q2 a, by rw [List.all_cons, b]; rfl, by rw [List.length_cons, List.length_cons, c]⟩
theorem pairs_sem {K : PySem.W.Frag} {env : Mp.Env} {σ : L2.St} : ∀ (es : Exs) {ks : List (Option Expr)} {vs : List Expr} {l : List Expr} {xs : List PyData} {S S' : Store} {m : List Addr} {Z H : Hp} {Q : List (V × V) → Hp → Prop}, flatD ks vs = some l → PEs X Γ gl es l →
    evalD Γ gl es env S = .ok xs S' → Rel m Z S H → ERel K m Z env σ → (∀ ps m' Z' H', Nxt m Z H m' Z' H' → Rel m' Z' S' H' → DRs Z' xs (flatV ps) → ps.length = ks.length → Q ps H') → tPairs (trsOf K Γ gl es) σ H Q
  | .nil, ks, vs, l, xs, S, S', m, Z, H, Q, hf, hp, h, r, w, q => by
    obtain ⟨rfl, rfl⟩ := ret_ok h
    cases hp
    obtain ⟨rfl, rfl⟩ := flat_nil hf
    exact q [] m Z H .refl r DRs.nil rfl
  | .cons k .nil, ks, vs, l, xs, S, S', m, Z, H, Q, hf, hp, h, r, w, q => by
    cases hp with
    | cons a b =>
      cases b
      obtain ⟨_, _, _, _, _, _, e, _⟩ := flat_cons hf
      cases e
  | .cons k (.cons v es), ks, vs, l, xs, S, S', m, Z, H, Q, hf, hp, h, r, w, q => by
    cases hp with
    | cons a b =>
      cases b with
      | cons b c =>
        obtain ⟨ks, v', vs, l', rfl, rfl, e, hf⟩ := flat_cons hf
        cases e
        obtain ⟨v1, S1, h1, h2⟩ := bnd_ok (show bnd (eval Γ gl k env) (fun v1 => bnd (own v1) fun x => bnd (evalD Γ gl (.cons v es) env) fun xs => ret (x :: xs)) S = .ok xs S' from h)
        obtain ⟨x, S2, h3, h4⟩ := bnd_ok h2
        obtain ⟨ys, S3, h5, h6⟩ := bnd_ok h4
        obtain ⟨rfl, rfl⟩ := ret_ok h6
        obtain ⟨v2, S4, h7, h8⟩ := bnd_ok (show bnd (eval Γ gl v env) (fun v1 => bnd (own v1) fun x => bnd (evalD Γ gl es env) fun xs => ret (x :: xs)) S2 = .ok ys _ from h5)
        obtain ⟨y, S5, h9, h10⟩ := bnd_ok h8
        obtain ⟨zs, S6, h11, h12⟩ := bnd_ok h10
        obtain ⟨rfl, rfl⟩ := ret_ok h12
        refine semE.at_ h1 r w fun u m1 Z1 H1 n1 r1 w1 q1 => ?_
        obtain ⟨Z2, r2, n2, d2⟩ := own_ok h3 r1 q1
        refine semE.at_ h7 r2 (w1.nxt n2) fun u2 m3 Z3 H3 n3 r3 w3 q3 => ?_
        obtain ⟨Z4, r4, n4, d4⟩ := own_ok h9 r3 q3
        refine pairs_sem es hf c h11 r4 (w3.nxt n4) fun ps m5 Z5 H5 n5 r5 d5 hl => ?_
        exact q ((u, u2) :: ps) m5 Z5 H5 (n1.trans (n2.trans (n3.trans (n4.trans n5)))) r5 (DRs.cons (DR.le (n3.zle.trans (n4.zle.trans n5.zle)) _ _ d2) (DRs.cons (DR.le n5.zle _ _ d4) d5)) (by rw [List.length_cons, List.length_cons, hl])
theorem s_dd {es : Exs} {ks : List (Option Expr)} {vs : List Expr} {l : List Expr} {pos : Pos} (hf : flatD ks vs = some l) (hp : PEs X Γ gl es l) (h15 : ks.length ≤ 15) : PE X (.Dict ks vs pos) (semE X.K Γ gl (.dd es)) := by
  obtain ⟨pp, hall, hl⟩ := pps_of (pos := pos) hf hp
  by_cases h0 : ks = []
  · subst h0
    cases vs with
    | cons _ _ => cases hf
    | nil =>
      cases hf
      cases hp
      refine PE.imp pe_dnewK fun σ H Q ⟨env, S, v, S', m, Z, h, r, w, f⟩ p hn => ?_
      obtain ⟨kvs, S1, g1, g2⟩ := bnd_ok (show bnd (evalD Γ gl .nil env) (fun xs => bnd (twoD [] xs) fun kvs => dat (.dict kvs)) S = .ok v S' from h)
      obtain ⟨rfl, rfl⟩ := ret_ok g1
      obtain ⟨kvs, S2, g3, g4⟩ := bnd_ok g2
      obtain ⟨rfl, rfl⟩ := ret_ok g3
      obtain ⟨r2, n2⟩ := r.newZ (o := .dK []) hn
      exact f.rq g4 .refl (.ref p) _ _ n2 r2 (by simp only [DR]; exact ⟨p, rfl, .inl ⟨[], upd_same, by simp only [DRk]⟩⟩)
  · refine PE.imp (pe_disp pp hall hl h0 h15) fun σ H Q ⟨env, S, v, S', m, Z, h, r, w, f⟩ p hn => ?_
    obtain ⟨xs, S1, g1, g2⟩ := bnd_ok (show bnd (evalD Γ gl es env) (fun xs => bnd (twoD [] xs) fun kvs => dat (.dict kvs)) S = .ok v S' from h)
    obtain ⟨kvs, S2, g3, g4⟩ := bnd_ok g2
    obtain ⟨r1, n1⟩ := r.newH (o := .dK []) hn
    refine pairs_sem es hf hp g1 r1 (w.nxt n1) fun ps m2 Z2 H2 n2 r2 d2 hlen => ?_
    obtain ⟨a1, a2, a3⟩ := n2.apart upd_same (fun e => by obtain ⟨u, hu⟩ := r.al p e; rw [hn] at hu; cases hu) (r.zfree hn)
    obtain ⟨rfl, more, e, dk⟩ := two_ok g3 d2 (ws := []) (by simp only [DRk])
    refine ⟨a1, more, e, by rw [e, List.length_map] at hlen; omega, ?_⟩
    have r3 := (r2.put (o := .dK (mergeK [] more)) a2 a3).fixZ upd_same a2 a3
    have n3 : Nxt m Z H m2 (upd Z2 p (.dK (mergeK [] more))) (upd H2 p (.dK (mergeK [] more))) := ((n1.trans n2).put hn).fixZ hn a3
    exact f.rq g4 n3 (.ref p) _ _ .refl r3 (by simp only [DR]; exact ⟨p, rfl, .inl ⟨_, upd_same, DRk.le (Le.upd a3) _ _ dk⟩⟩)
end
end Mr
end
section
set_option autoImplicit false
set_option linter.all false
set_option maxRecDepth 100000
set_option maxHeartbeats 4000000
/-! Mq3: the look that a written def is the small Python's; it is sound. -/
namespace Mp
open PySem PySem.Spec PyProof.Rows L2
/-- the scope that runs, the scope that is written, the slots' names, the functions with their parameters, the constants -/
structure Cc where
  sc : Scope
  wr : Scope
  N : List Str
  fns : List (Str × List Str)
  gls : List Str
def visB (sc : Scope) (x : Str) : Bool := match sc.names.lookup x with
  | some .local => true
  | some .cell => true
  | some .free => true
  | _ => false
def glB (sc : Scope) (x : Str) : Bool := match sc.names.lookup x with
  | some .globalImplicit => true
  | _ => false
def stB (sc : Scope) (x : Str) : Bool := match sc.names.lookup x with
  | some .local => true
  | some .cell => true
  | _ => false
def locB (sc : Scope) (x : Str) : Bool := match sc.names.lookup x with
  | some .local => true
  | _ => false
def okN (x : Str) : Bool := !(x == ("__debug__" : Str)) && !(x == ("__classdict__" : Str))
def opB : BinK → Operator → Bool
  | .add, .Add => true | .sub, .Sub => true | .mul, .Mult => true | .fdiv, .FloorDiv => true | .mod, .Mod => true | .pow, .Pow => true | .band, .BitAnd => true | .bor, .BitOr => true | .shl, .LShift => true
  | _, _ => false
theorem opB_ok {o : BinK} {p : Operator} (h : opB o p = true) : p = opK o := by cases o <;> cases p <;> first | rfl | cases h
def cmpB : CmpK → CmpOp → Bool
  | .eq, .Eq => true | .ne, .NotEq => true | .lt, .Lt => true | .le, .LtE => true | .gt, .Gt => true | .ge, .GtE => true | .is, .Is => true | .isnot, .IsNot => true | .in, .In => true | .notin, .NotIn => true
  | _, _ => false
theorem cmpB_ok {o : CmpK} {p : CmpOp} (h : cmpB o p = true) : p = cmpO o := by cases o <;> cases p <;> first | rfl | cases h
def conB : PyData → Const → Bool
  | .none, .none => true
  | .bool a, .bool b => a == b
  | .int a, .int b => a == b
  | .str a, .str b => a == b
  | _, _ => false
/-- a name of a built-in here -/
def bltB (c : Cc) (x y : Str) : Bool := (x == y) && glB c.sc x
def m1B : M1 → Bool
  | .split => false
  | _ => true
def blkCc (c : Cc) (scope : Scope) : Cc := { c with sc := relS scope c.sc, wr := scope }
def namesB (c : Cc) : List Nat → List Expr → Bool
  | [], [] => true
  | i :: is, .Name x _ :: es => decide (c.N[i]? = some x) && stB c.wr x && namesB c is es
  | _, _ => false
def tgB (c : Cc) : Tg → Expr → Bool
  | .nm i, .Name x _ => decide (c.N[i]? = some x) && stB c.wr x
  | .tp is, .Tuple es _ _ => namesB c is es
  | _, _ => false
def ownP (N : List Str) (ow : List Nat) : List (Str × Nat) := ow.map fun i => (N.getD i "", i)
def tyB (t : Ty) (x : Str) : Bool := x == PySem.Str.ofString (tyS t)
/-- what can be made to be changed -/
def mkB : Ex → Bool
  | .lst _ => true
  | .b1 .list _ => true
  | .lc _ _ _ _ _ => true
  | _ => false
mutual
def ckE (c : Cc) : Ex → Expr → Bool
  | .var i, E => (match E with
    | .Name x _ => decide (c.N[i]? = some x) && visB c.sc x && okN x
    | _ => false)
  | .con d, E => (match E with
    | .Constant k _ _ => conB d k
    | _ => false)
  | .glb k, E => (match E with
    | .Name x _ => decide (c.gls[k]? = some x) && glB c.sc x && okN x
    | _ => false)
  | .tup es, E => (match E with
    | .Tuple xs _ _ => ckEs c es xs
    | _ => false)
  | .lst es, E => (match E with
    | .List xs _ => ckEs c es xs
    | _ => false)
  | .bin o a b, E => (match E with
    | .BinOp x p y _ => opB o p && ckE c a x && ckE c b y
    | _ => false)
  | .cmp o a b, E => (match E with
    | .Compare x [p] [y] _ => cmpB o p && ckE c a x && ckE c b y && !isSetD y
    | _ => false)
  | .chn o o' a b d, E => (match E with
    | .Compare x [p, p'] [y, z] _ => cmpB o p && cmpB o' p' && ckE c a x && ckE c b y && ckE c d z && !isSetD z
    | _ => false)
  | .and es, E => (match E with
    | .BoolOp .And (x :: xs) _ => ckEs c es (x :: xs)
    | _ => false)
  | .or es, E => (match E with
    | .BoolOp .Or (x :: xs) _ => ckEs c es (x :: xs)
    | _ => false)
  | .not a, E => (match E with
    | .UnaryOp .Not x _ => ckE c a x
    | _ => false)
  | .ite t a b, E => (match E with
    | .IfExp u x y _ => ckE c t u && ckE c a x && ckE c b y
    | _ => false)
  | .ix a b, E => (match E with
    | .Subscript x y _ => ckE c a x && ckE c b y && !isSlice y
    | _ => false)
  | .slf a b, E => (match E with
    | .Subscript x (.Slice (some y) none none _) _ => ckE c a x && ckE c b y
    | _ => false)
  | .slt a b, E => (match E with
    | .Subscript x (.Slice none (some y) none _) _ => ckE c a x && ckE c b y
    | _ => false)
  | .slb a b d, E => (match E with
    | .Subscript x (.Slice (some y) (some z) none _) _ => ckE c a x && ckE c b y && ckE c d z
    | _ => false)
  | .rev a, E => (match E with
    | .Subscript x (.Slice none none (some (.UnaryOp .USub (.Constant (.int 1) _ _) _)) _) _ => ckE c a x
    | _ => false)
  | .call f es, E => (match E with
    | .Call (.Name x _) (y :: ys) [] _ => (match c.fns[f]? with
      | some (n, _) => (n == x) && glB c.sc x && okN x && ckEs c es (y :: ys)
      | none => false)
    | _ => false)
  | .callk f es perm, E => (match E with
    | .Call (.Name x _) [] kws _ => (match c.fns[f]?, kwNames kws with
      | some (n, ps), some ks => (n == x) && glB c.sc x && okN x && ckK c es kws && decide ks.Nodup && (ks.all fun k => decide (k ∈ ps)) && decide (permL ks perm = some ps)
      | _, _ => false)
    | _ => false)
  | .b1 b a, E => (match b with
    | .neg => (match E with
      | .UnaryOp .USub x _ => ckE c a x
      | _ => false)
    | .sset => (match E with
      | .Call (.Name x _) [.Call (.Name z _) [y] [] _] [] _ => bltB c x "sorted" && bltB c z "set" && ckE c a y && !isStar y
      | _ => false)
    | .svals => (match E with
      | .Call (.Name x _) [.Call (.Attribute y n apos) [] [] mpos] [] _ => bltB c x "sorted" && (n == ("values" : Str)) && ckE c a y && !isCallE y && (apos.endLine == mpos.line)
      | _ => false)
    | .lset => false
    | .bitlen => false
    | b => (match E with
      | .Call (.Name x _) [y] [] _ => bltB c x (b1N b) && ckE c a y && !isStar y
      | _ => false))
  | .b2 b a a', E => (match E with
    | .Call (.Name x _) [y, y'] [] _ => bltB c x (b2N b) && ckE c a y && ckE c a' y' && !isStar y && !isStar y'
    | _ => false)
  | .isi a t, E => (match E with
    | .Call (.Name x _) [y, .Name z _] [] _ => bltB c x "isinstance" && tyB t z && glB c.sc z && ckE c a y && !isStar y
    | _ => false)
  | .m0 m a, E => (match E with
    | .Call (.Attribute x n apos) [] [] pos => (match m with
      | .pop => (n == ("pop" : Str)) && ckE c a x && !isCallE x && (apos.endLine == pos.line)
      | .bitlen => (n == ("bit_length" : Str)) && ckE c a x && !isCallE x && (apos.endLine == pos.line)
      | _ => false)
    | _ => false)
  | .m1 m a b, E => (match E with
    | .Call (.Attribute x n apos) [y] [] pos => m1B m && (n == m1N m) && ckE c a x && ckE c b y && !isCallE x && !isStar y && (apos.endLine == pos.line)
    | _ => false)
  | .m2 m a b d, E => (match E with
    | .Call (.Attribute x n apos) [y, z] [] pos => (match m with
      | .get => (n == ("get" : Str)) && ckE c a x && ckE c b y && ckE c d z && !isCallE x && !isStar y && !isStar z && (apos.endLine == pos.line)
      | _ => false)
    | _ => false)
  | .lc elt t it cond ow, E => (match E with
    | .ListComp x [⟨tg, iter, ifs, k⟩] scope _ => (k == 0) && blkC c.N c.sc scope (ownP c.N ow) && ckI c it iter tg && tgB (blkCc c scope) t tg && ckC (blkCc c scope) cond ifs && ckE (blkCc c scope) elt x && !isSetD iter && ((tgS t).all fun i => decide (i ∈ ow))
    | _ => false)
  | .dd es, E => (match E with
    | .Dict ks vs _ => (match Mr.flatD ks vs with
      | some l => ckEs c es l && decide (ks.length ≤ 15)
      | none => false)
    | _ => false)
  | .mk e, E => mkB e && ckE c e E
  | _, _ => false
def ckC (c : Cc) : Exs → List Expr → Bool
  | .nil, [] => true
  | .cons e .nil, [x] => ckE c e x
  | _, _ => false
def ckEs (c : Cc) : Exs → List Expr → Bool
  | .nil, [] => true
  | .cons e es, x :: xs => ckE c e x && !isStar x && ckEs c es xs
  | _, _ => false
def ckK (c : Cc) : Exs → List Keyword → Bool
  | .nil, [] => true
  | .cons e es, ⟨_, x, _⟩ :: xs => ckE c e x && ckK c es xs
  | _, _ => false
def ckI (c : Cc) : It → Expr → Expr → Bool
  | .val e, E, _ => ckE c e E
  | .rg1 a, E, _ => (match E with
    | .Call (.Name x _) [y] [] _ => bltB c x "range" && ckE c a y && !isStar y
    | _ => false)
  | .rg2 a b, E, _ => (match E with
    | .Call (.Name x _) [y, z] [] _ => bltB c x "range" && ckE c a y && ckE c b z && !isStar y && !isStar z
    | _ => false)
  | .rg3 a b d, E, _ => (match E with
    | .Call (.Name x _) [y, z, u] [] _ => bltB c x "range" && ckE c a y && ckE c b z && ckE c d u && !isStar y && !isStar z && !isStar u
    | _ => false)
  | .en a, E, T => (match E, T with
    | .Call (.Name x _) [y] [] _, .Tuple _ _ _ => bltB c x "enumerate" && ckE c a y && !isStar y
    | _, _ => false)
  | .zp a b, E, T => (match E, T with
    | .Call (.Name x _) [y, z] [] _, .Tuple _ _ _ => bltB c x "zip" && ckE c a y && ckE c b z && !isStar y && !isStar z
    | _, _ => false)
  | .rv a, E, _ => (match E with
    | .Call (.Name x _) [y] [] _ => bltB c x "reversed" && ckE c a y && !isStar y
    | _ => false)
  | _, _, _ => false
end
/-- the stores of a, b = (x, y): swapped or in order -/
def swS (ts vs : List Expr) (sc : Scope) : Option (Option (List Str)) :=
  if !(ts.length == 2 || ts.length == 3) || vs.length != ts.length then some none else
  if (vs.any fun | .Starred .. => true | _ => false) then some none else
  let line := (ts.head?.map (·.pos.line)).getD 0
  let names := ts.filterMap fun
    | .Name id pos => if sc.names.lookup id == some .local && pos.line == line then some id else none
    | _ => none
  if names.length != ts.length || names.eraseDups.length != names.length then some none else
  if vs.all (foldedForSure 8) then some none else
  if vs.all (constantsAlone 8) then none else
  some (some names)
theorem swS_ok {ts vs : List Expr} {env : PySem.Env} {r : Option (List Str)} (hk : env.scope.kind = .function) (h : swS ts vs env.scope = some r) (k k2 : Nat) (p p2 : Pos) : swappedStores [.Tuple ts k p] (.Tuple vs k2 p2) env = pure r := by
  have hb : (env.blockKind != .function) = false := by
    unfold PySem.Env.blockKind
    rw [hk]
    rfl
  unfold swS at h
  unfold swappedStores
  simp only [hb, Bool.or_false]
  split at h
  · rename_i c
    cases h
    exact if_pos c
  · rename_i c
    refine (if_neg c).trans ?_
    split at h
    · rename_i c
      cases h
      exact if_pos c
    · rename_i c
      refine (if_neg c).trans ?_
      dsimp only at h
      split at h
      · rename_i c
        cases h
        exact if_pos c
      · rename_i c
        refine (if_neg c).trans ?_
        split at h
        · rename_i c
          cases h
          exact if_pos c
        · rename_i c
          refine (if_neg c).trans ?_
          split at h
          · cases h
          · rename_i c
            cases h
            exact if_neg c
end Mp
end
section
set_option autoImplicit false
set_option linter.all false
set_option maxRecDepth 100000
set_option maxHeartbeats 4000000
/-! Mq4: expressions: the look is sound. -/
namespace Mp
open PySem PySem.Spec PyProof.Rows L2
def bltNames : List Str := ["len", "repr", "int", "str", "sorted", "list", "tuple", "dict", "sum", "max", "min", "isinstance", "range", "enumerate", "zip", "reversed", "set", "bool"]
structure GoodX (Γ : Nat → List Val → M Val) (gl : List PyData) (n : Nat) (c : Cc) (X : Cx) : Prop where
  b : CxB X
  N : X.N = c.N
  nd : c.N.Nodup
  sc : X.env.scope = c.sc
  kd : c.sc.kind = .function
  st : ∀ x, stB c.wr x = true → Loc c.sc x ∧ (X.fn x = true ∨ c.sc.names.lookup x = some .local)
  own : PassesOwn (model X.prog X.w) X.A X.env X.xe
  room : Room n X.A
  bl : ∀ x, x ∈ bltNames → X.mg x = none
  gls : ∀ (k : Nat) (x : Str), c.gls[k]? = some x → ∃ u v d, X.mg x = some u ∧ RelV v u ∧ gl[k]? = some d ∧ ∀ Z, DR Z d v
  fns : ∀ (k : Nat) (x : Str) (ps : List Str), c.fns[k]? = some (x, ps) → ∃ f, X.mg x = some (.ref f) ∧ PySem.W.keepIn X.K (.ref f) = true ∧ FnG X.prog X.w X.K X.mg X.base n f ps (semCall X.K Γ k)
section
variable {Γ : Nat → List Val → M Val} {gl : List PyData} {n : Nat} {c : Cc} {X : Cx}
theorem visB_ok {sc : Scope} {x : Str} (h : visB sc x = true) : Vis sc x := by
  unfold visB at h
  split at h
  · rename_i e; exact .inl e
  · rename_i e; exact .inr (.inl e)
  · rename_i e; exact .inr (.inr e)
  · cases h
theorem glB_ok (G : GoodX Γ gl n c X) {x : Str} (h : glB c.sc x = true) : Gl X x := by
  unfold glB at h
  split at h
  · rename_i e
    show X.env.scope.names.lookup x = some .globalImplicit
    rw [G.sc]; exact e
  · cases h
theorem okN_ok {x : Str} (h : okN x = true) : (x == ("__debug__" : Str)) = false ∧ (x == ("__classdict__" : Str)) = false := by
  unfold okN at h
  rw [Bool.and_eq_true, Bool.not_eq_true', Bool.not_eq_true'] at h
  exact h
theorem bltB_ok (G : GoodX Γ gl n c X) {x y : Str} (h : bltB c x y = true) (hy : y ∈ bltNames) : x = y ∧ Blt X y := by
  unfold bltB at h
  rw [Bool.and_eq_true, beq_iff_eq] at h
  obtain ⟨rfl, h2⟩ := h
  exact ⟨rfl, glB_ok G h2, G.bl _ hy⟩
theorem slot_ok (G : GoodX Γ gl n c X) {i : Nat} {x : Str} (h : (decide (c.N[i]? = some x) && stB c.wr x) = true) : X.N[i]? = some x ∧ Loc X.env.scope x ∧ (X.fn x = true ∨ X.env.scope.names.lookup x = some .local) := by
  rw [Bool.and_eq_true, decide_eq_true_eq] at h
  obtain ⟨h1, h2⟩ := G.st x h.2
  rw [G.N, G.sc]
  exact ⟨h.1, h1, h2⟩
theorem names_ok (G : GoodX Γ gl n c X) : ∀ {is : List Nat} {es : List Expr}, namesB c is es = true → TgOk X es is
  | [], [], _ => .nil
  | [], _ :: _, h => by cases h
  | _ :: _, [], h => by cases h
  | i :: is, e :: es, h => by
    cases e with
    | Name x p =>
      rw [namesB, Bool.and_eq_true] at h
      obtain ⟨h1, h2, h3⟩ := slot_ok G h.1
      exact .cons ⟨x, p, rfl, h1, h2, h3⟩ (names_ok G h.2)
    | _ => cases h
theorem tg_ok (G : GoodX Γ gl n c X) {t : Tg} {E : Expr} (h : tgB c t E = true) : PG X E (gT X.K t) := by
  have hN : X.N.Nodup := by rw [G.N]; exact G.nd
  cases t with
  | nm i =>
    cases E with
    | Name x p =>
      obtain ⟨h1, h2, h3⟩ := slot_ok G h
      exact pg_name hN h1 h2 h3
    | _ => cases h
  | tp is =>
    cases E with
    | Tuple es k p => exact pg_tp G.b.calm hN (names_ok G h)
    | _ => cases h
theorem GoodX.blk (G : GoodX Γ gl n c X) {scope : Scope} {own : List (Str × Nat)} (h : blkC c.N c.sc scope own = true) (s : Shared) (H : Hp) (C : Addr) (cl : List (Str × Addr)) (fp : List Addr) : GoodX Γ gl n (blkCc c scope) (X.blk s H scope (compEnvC scope cl C X.env) fp) := by
  have B := blkOk_by h
  refine ⟨⟨G.b.calm, G.b.hu, G.b.hg, G.b.hb⟩, G.N, G.nd, ?_, B.kind, fun x hx => ?_, PassesOwn.never, G.room, G.bl, G.gls, G.fns⟩
  · show relS scope X.env.scope = relS scope c.sc
    rw [G.sc]
  · unfold stB blkCc at hx
    simp only at hx
    split at hx
    · rename_i e
      have q : (relS scope c.sc).names.lookup x = some .local := lookup_relS_keep (by decide) e
      exact ⟨.inl q, .inr q⟩
    · rename_i e
      have q : (relS scope c.sc).names.lookup x = some .cell := lookup_relS_keep (by decide) e
      refine ⟨.inr q, .inl ?_⟩
      show (scope.names.lookup x == some .cell) = true
      rw [e]
      rfl
    · cases hx
theorem con_ok {d : PyData} {k : Const} {j : Nat} {pos : Pos} (h : conB d k = true) : PE X (.Constant k j pos) (semE X.K Γ gl (.con d)) := by
  cases d <;> cases k <;> first | (cases h; done) | skip
  · exact s_non
  · rw [conB, beq_iff_eq] at h
    subst h
    exact s_bl
  · rw [conB, beq_iff_eq] at h
    subst h
    exact s_int
  · rw [conB, beq_iff_eq] at h
    subst h
    exact s_str
theorem ownP_slots (N : List Str) (ow : List Nat) : (ownP N ow).map (·.2) = ow := by
  unfold ownP
  rw [List.map_map]
  exact List.map_id ow
theorem vlen {as : Exs} {ks : List Keyword} (h : ckK c as ks = true) : ∀ env S vs S', evalV Γ gl as env S = .ok vs S' → vs.length = ks.length := by
  intro env S vs S' e
  match as, ks, h with
  | .nil, [], _ =>
    obtain ⟨rfl, rfl⟩ := ret_ok (show ret [] S = .ok vs S' from e)
    rfl
  | .nil, _ :: _, h => cases h
  | .cons _ _, [], h => cases h
  | .cons a as, ⟨nm, x, p⟩ :: ks, h =>
    rw [ckK, Bool.and_eq_true] at h
    obtain ⟨v, S1, h1, h2⟩ := bnd_ok (show bnd (eval Γ gl a env) (fun v => bnd (evalV Γ gl as env) fun xs => ret (v :: xs)) S = .ok vs S' from e)
    obtain ⟨ys, S3, h5, h6⟩ := bnd_ok h2
    obtain ⟨rfl, rfl⟩ := ret_ok h6
    rw [List.length_cons, List.length_cons, vlen h.2 env S1 ys S' h5]
theorem kwn_len : ∀ {kws : List Keyword} {ks : List Str}, kwNames kws = some ks → ks.length = kws.length
  | [], ks, h => by cases h; rfl
  | ⟨none, _, _⟩ :: _, ks, h => by cases h
  | ⟨some x, e, p⟩ :: r, ks, h => by
    cases e1 : kwNames r with
    | none => rw [kwNames, e1] at h; cases h
    | some t =>
      rw [kwNames, e1] at h
      cases h
      rw [List.length_cons, List.length_cons, kwn_len e1]
end
/-- both readings, where the second is the first's -/
theorem both {X : Cx} {Γ : Nat → List Val → M Val} {gl : List PyData} {e : Ex} {E : Expr} (h : PE X E (semE X.K Γ gl e)) (hv : isVal E = true) : PE X E (semE X.K Γ gl e) ∧ PT X E (semT X.K Γ gl e) := ⟨h, t_val h hv⟩
end Mp
end
section
set_option autoImplicit false
set_option linter.all false
set_option maxRecDepth 100000
set_option maxHeartbeats 8000000
/-! Mq5: expressions: the look is sound. -/
namespace Mp
open PySem PySem.Spec PyProof.Rows L2
def lcB : Ex → Bool
  | .lc _ _ _ _ _ => true
  | _ => false
/-- what is known of a written expression -/
structure Snd (X : Cx) (Γ : Nat → List Val → M Val) (gl : List PyData) (e : Ex) (E : Expr) : Prop where
  pe : PE X E (semE X.K Γ gl e)
  pt : PT X E (semT X.K Γ gl e)
  mkk : mkB e = true → PE X E (semE X.K Γ gl (.mk e))
  st : lcB e = true → ∀ {i : Nat} {y : Str} {py spos : Pos}, X.N[i]? = some y → X.env.scope.names.lookup y = some .local → swapsWith E (some (.Name y py)) spos.line X.env = pure true →
    PS X (.Assign [.Name y py] E spos) (semS X.K Γ gl (.asg (.nm i) e)) ∧ PS X (.Assign [.Name y py] E spos) (semS X.K Γ gl (.asg (.nm i) (.mk e)))
section
variable {X : Cx} {Γ : Nat → List Val → M Val} {gl : List PyData}
theorem Snd.of {e : Ex} {E : Expr} (h : PE X E (semE X.K Γ gl e)) (hv : isVal E = true) (hm : mkB e = false) (hl : lcB e = false) : Snd X Γ gl e E := ⟨h, t_val h hv, (fun z => by rw [hm] at z; cases z), (fun z => by rw [hl] at z; cases z)⟩
theorem Snd.of2 {e : Ex} {E : Expr} (h : PE X E (semE X.K Γ gl e)) (t : PT X E (semT X.K Γ gl e)) (hm : mkB e = false) (hl : lcB e = false) : Snd X Γ gl e E := ⟨h, t, (fun z => by rw [hm] at z; cases z), (fun z => by rw [hl] at z; cases z)⟩
theorem pts_ok {ifs : List Expr} {cond : Exs} {c : Cc} (h : ckC c cond ifs = true) (k : ∀ e x, cond = .cons e .nil → ifs = [x] → PT X x (semT X.K Γ gl e)) : PTs X ifs (semBT X.K (evalA Γ gl cond)) := by
  match cond, ifs, h with
  | .nil, [], _ =>
    refine ⟨fun pins s σ H Q I ⟨env, S, b, S', m, Z, h, r, w, f⟩ => pts_nil.run pins s σ H Q I ?_⟩
    obtain ⟨rfl, rfl⟩ := ret_ok (show ret true S = .ok b S' from h)
    exact f m Z H .refl r
  | .cons e .nil, [x], h =>
    have q := k e x rfl rfl
    refine ⟨fun pins s σ H Q I ⟨env, S, b, S', m, Z, h, r, w, f⟩ => (pts_one q).run pins s σ H Q I ?_⟩
    obtain ⟨v, S1, h1, h2⟩ := bnd_ok (show bnd (eval Γ gl e env) (fun v => bnd (toB v) fun b => if b = true then ret true else ret false) S = .ok b S' from h)
    obtain ⟨d, S2, h3, h4⟩ := bnd_ok h2
    obtain ⟨rfl, rfl⟩ := toB_ok h3
    have e2 : b = d ∧ S' = S2 := by
      cases d
      · exact ret_ok (show ret false S2 = .ok b S' from h4)
      · exact ret_ok (show ret true S2 = .ok b S' from h4)
    obtain ⟨rfl, rfl⟩ := e2
    exact semT.at_ h1 r w fun m1 Z1 H1 n1 r1 w1 => f m1 Z1 H1 n1 r1
  | .cons _ (.cons _ _), _, h => simp [ckC] at h
  | .nil, _ :: _, h => simp [ckC] at h
  | .cons _ .nil, [], h => simp [ckC] at h
  | .cons _ .nil, _ :: _ :: _, h => simp [ckC] at h
variable {n : Nat}
mutual
theorem snd_e : ∀ (e : Ex) (c : Cc) (E : Expr), ckE c e E = true → ∀ X : Cx, GoodX Γ gl n c X → Snd X Γ gl e E
  | .var i, c, E, h, X, G => by
    unfold ckE at h
    split at h
    · simp only [Bool.and_eq_true, decide_eq_true_eq] at h
      obtain ⟨q1, q2⟩ := okN_ok h.2
      exact .of (s_var (by rw [G.N]; exact h.1.1) (by rw [G.sc]; exact visB_ok h.1.2) q1 q2) rfl rfl rfl
    · cases h
  | .con d, c, E, h, X, G => by
    unfold ckE at h
    split at h
    · exact .of (con_ok h) rfl rfl rfl
    · cases h
  | .glb k, c, E, h, X, G => by
    unfold ckE at h
    split at h
    · simp only [Bool.and_eq_true, decide_eq_true_eq] at h
      obtain ⟨q1, q2⟩ := okN_ok h.2
      obtain ⟨u, v, d, k1, k2, k3, k4⟩ := G.gls k _ h.1.1
      exact .of (s_glb (glB_ok G h.1.2) k1 k2 k3 k4 q1) rfl rfl rfl
    · cases h
  | .tup es, c, E, h, X, G => by
    unfold ckE at h
    split at h
    · exact .of (s_tup (snd_d es c _ h X G).1) rfl rfl rfl
    · cases h
  | .lst es, c, E, h, X, G => by
    unfold ckE at h
    split at h
    · have q := (snd_d es c _ h X G).1
      exact ⟨s_lst q, t_val (s_lst q) rfl, fun _ => mk_lst q, fun z => nomatch z⟩
    · cases h
  | .bin o a b, c, E, h, X, G => by
    unfold ckE at h
    split at h
    · simp only [Bool.and_eq_true] at h
      have eo := opB_ok h.1.1
      subst eo
      exact .of (s_bin (snd_e a c _ h.1.2 X G).pe (snd_e b c _ h.2 X G).pe) rfl rfl rfl
    · cases h
  | .cmp o a b, c, E, h, X, G => by
    unfold ckE at h
    split at h
    · simp only [Bool.and_eq_true, Bool.not_eq_true'] at h
      have eo := cmpB_ok h.1.1.1
      subst eo
      have p1 := (snd_e a c _ h.1.1.2 X G).pe
      have p2 := (snd_e b c _ h.1.2 X G).pe
      exact .of2 (s_cmp G.b.hu p1 p2 h.2) (t_cmp G.b.hu p1 p2 h.2) rfl rfl
    · cases h
  | .chn o o' a b d, c, E, h, X, G => by
    unfold ckE at h
    split at h
    · simp only [Bool.and_eq_true, Bool.not_eq_true'] at h
      have eo := cmpB_ok h.1.1.1.1.1
      have eo' := cmpB_ok h.1.1.1.1.2
      subst eo
      subst eo'
      have p1 := (snd_e a c _ h.1.1.1.2 X G).pe
      have p2 := (snd_e b c _ h.1.1.2 X G).pe
      have p3 := (snd_e d c _ h.1.2 X G).pe
      exact .of2 (s_chn G.b.hu p1 p2 p3 h.2) (t_chn G.b.hu p1 p2 p3 h.2) rfl rfl
    · cases h
  | .and es, c, E, h, X, G => by
    unfold ckE at h
    split at h
    · obtain ⟨q1, q2⟩ := snd_and es c _ _ h X G _
      exact .of2 (s_and q1) (t_and q2) rfl rfl
    · cases h
  | .or es, c, E, h, X, G => by
    unfold ckE at h
    split at h
    · obtain ⟨q1, q2⟩ := snd_or es c _ _ h X G _
      exact .of2 (s_or q1) (t_or q2) rfl rfl
    · cases h
  | .not a, c, E, h, X, G => by
    unfold ckE at h
    split at h
    · have q := snd_e a c _ h X G
      exact .of2 (s_not q.pe) (t_not q.pt) rfl rfl
    · cases h
  | .ite t a b, c, E, h, X, G => by
    unfold ckE at h
    split at h
    · simp only [Bool.and_eq_true] at h
      have q1 := snd_e t c _ h.1.1 X G
      have q2 := snd_e a c _ h.1.2 X G
      have q3 := snd_e b c _ h.2 X G
      exact .of2 (s_ite q1.pt q2.pe q3.pe) (t_ite q1.pt q2.pt q3.pt) rfl rfl
    · cases h
  | .ix a b, c, E, h, X, G => by
    unfold ckE at h
    split at h
    · simp only [Bool.and_eq_true, Bool.not_eq_true'] at h
      exact .of (s_ix G.b.hu (snd_e a c _ h.1.1 X G).pe (snd_e b c _ h.1.2 X G).pe h.2) rfl rfl rfl
    · cases h
  | .slf a b, c, E, h, X, G => by
    unfold ckE at h
    split at h
    · simp only [Bool.and_eq_true] at h
      exact .of (s_slf (snd_e a c _ h.1 X G).pe (snd_e b c _ h.2 X G).pe) rfl rfl rfl
    · cases h
  | .slt a b, c, E, h, X, G => by
    unfold ckE at h
    split at h
    · simp only [Bool.and_eq_true] at h
      exact .of (s_slt (snd_e a c _ h.1 X G).pe (snd_e b c _ h.2 X G).pe) rfl rfl rfl
    · cases h
  | .slb a b d, c, E, h, X, G => by
    unfold ckE at h
    split at h
    · simp only [Bool.and_eq_true] at h
      exact .of (s_slb (snd_e a c _ h.1.1 X G).pe (snd_e b c _ h.1.2 X G).pe (snd_e d c _ h.2 X G).pe) rfl rfl rfl
    · cases h
  | .rev a, c, E, h, X, G => by
    unfold ckE at h
    split at h
    · exact .of (s_rev (snd_e a c _ h X G).pe) rfl rfl rfl
    · cases h
  | .call f es, c, E, h, X, G => by
    unfold ckE at h
    split at h
    · split at h
      · rename_i e
        simp only [Bool.and_eq_true, beq_iff_eq] at h
        obtain ⟨⟨⟨e1, h2⟩, h3⟩, h4⟩ := h
        subst e1
        obtain ⟨fa, k1, k2, F⟩ := G.fns f _ _ e
        obtain ⟨pv, st⟩ := (snd_d es c _ h4 X G).2
        exact .of (s_call (F.call G.room G.b.hg) (glB_ok G h2) k1 k2 pv (okN_ok h3).1 (st.1 _ _ rfl) (st.2 _ _ rfl)) rfl rfl rfl
      · cases h
    · cases h
  | .callk f es perm, c, E, h, X, G => by
    unfold ckE at h
    split at h
    · split at h
      · rename_i e e'
        simp only [Bool.and_eq_true, beq_iff_eq, decide_eq_true_eq, List.all_eq_true] at h
        obtain ⟨⟨⟨⟨⟨⟨e1, h2⟩, h3⟩, h4⟩, h5⟩, h6⟩, h7⟩ := h
        subst e1
        obtain ⟨fa, k1, k2, F⟩ := G.fns f _ _ e
        exact .of (s_callk F G.room G.b.hg (glB_ok G h2) k1 k2 (okN_ok h3).1 (snd_k es c _ h4 X G) e' h5 h6 h7 fun env S vs S' q => by rw [kwn_len e']; exact vlen h4 env S vs S' q) rfl rfl rfl
      · cases h
    · cases h
  | .b1 b a, c, E, h, X, G => by
    have gen : ∀ (b : B1) (E : Expr), b1Call b = true → b1N b ∈ bltNames → (match E with
        | .Call (.Name x _) [y] [] _ => bltB c x (b1N b) && ckE c a y && !isStar y
        | _ => false) = true → Snd X Γ gl (.b1 b a) E := by
      intro b E hb hn h
      split at h
      · simp only [Bool.and_eq_true, Bool.not_eq_true'] at h
        obtain ⟨e1, bl⟩ := bltB_ok G h.1.1 hn
        subst e1
        have q := (snd_e a c _ h.1.2 X G).pe
        have r := fun p pos => s_b1 (gl := gl) (p := p) (pos := pos) G.b hb bl q h.2
        refine ⟨r _ _, t_val (r _ _) rfl, fun z => ?_, fun z => nomatch z⟩
        cases b with
        | list => exact mk_list G.b bl q h.2
        | _ => cases z
      · cases h
    cases b with
    | neg =>
      unfold ckE at h
      dsimp only at h
      split at h
      · exact .of (s_neg (snd_e a c _ h X G).pe) rfl rfl rfl
      · cases h
    | sset =>
      unfold ckE at h
      dsimp only at h
      split at h
      · simp only [Bool.and_eq_true, Bool.not_eq_true'] at h
        obtain ⟨e1, bl⟩ := bltB_ok G h.1.1.1 (by decide +kernel)
        obtain ⟨e2, bl2⟩ := bltB_ok G h.1.1.2 (by decide +kernel)
        subst e1
        subst e2
        exact .of (Mr.s_sset G.b bl bl2 (snd_e a c _ h.1.2 X G).pe h.2) rfl rfl rfl
      · cases h
    | svals =>
      unfold ckE at h
      dsimp only at h
      split at h
      · simp only [Bool.and_eq_true, Bool.not_eq_true', beq_iff_eq] at h
        obtain ⟨⟨⟨⟨e1, e2⟩, h3⟩, h4⟩, h5⟩ := h
        obtain ⟨e1, bl⟩ := bltB_ok G e1 (by decide +kernel)
        subst e1
        subst e2
        exact .of (Mr.s_svals G.b bl (snd_e a c _ h3 X G).pe h4 (by rw [beq_iff_eq]; exact h5)) rfl rfl rfl
      · cases h
    | lset => unfold ckE at h; cases h
    | bitlen => unfold ckE at h; cases h
    | len => exact gen _ E rfl (by decide +kernel) (by exact h)
    | repr => exact gen _ E rfl (by decide +kernel) (by exact h)
    | int => exact gen _ E rfl (by decide +kernel) (by exact h)
    | str => exact gen _ E rfl (by decide +kernel) (by exact h)
    | sorted => exact gen _ E rfl (by decide +kernel) (by exact h)
    | list => exact gen _ E rfl (by decide +kernel) (by exact h)
    | tuple => exact gen _ E rfl (by decide +kernel) (by exact h)
    | dict => exact gen _ E rfl (by decide +kernel) (by exact h)
    | sum => exact gen _ E rfl (by decide +kernel) (by exact h)
    | max => exact gen _ E rfl (by decide +kernel) (by exact h)
    | min => exact gen _ E rfl (by decide +kernel) (by exact h)
  | .b2 b a a', c, E, h, X, G => by
    unfold ckE at h
    split at h
    · simp only [Bool.and_eq_true, Bool.not_eq_true'] at h
      obtain ⟨e1, bl⟩ := bltB_ok G h.1.1.1.1 (by cases b <;> decide +kernel)
      subst e1
      exact .of (s_b2 G.b bl (snd_e a c _ h.1.1.1.2 X G).pe (snd_e a' c _ h.1.1.2 X G).pe h.1.2 h.2) rfl rfl rfl
    · cases h
  | .isi a t, c, E, h, X, G => by
    unfold ckE at h
    split at h
    · simp only [Bool.and_eq_true, Bool.not_eq_true'] at h
      obtain ⟨e1, bl⟩ := bltB_ok G h.1.1.1.1 (by decide +kernel)
      subst e1
      have ez := h.1.1.1.2
      unfold tyB at ez
      rw [beq_iff_eq] at ez
      subst ez
      exact .of (s_isi bl ⟨glB_ok G h.1.1.2, G.bl _ (by cases t <;> decide +kernel)⟩ (snd_e a c _ h.1.2 X G).pe h.2) rfl rfl rfl
    · cases h
  | .m0 m a, c, E, h, X, G => by
    unfold ckE at h
    split at h
    · cases m with
      | pop =>
        simp only [Bool.and_eq_true, Bool.not_eq_true', beq_iff_eq] at h
        obtain ⟨⟨⟨e1, h2⟩, h3⟩, h4⟩ := h
        subst e1
        exact .of (s_pop (snd_e a c _ h2 X G).pe h3 (by rw [beq_iff_eq]; exact h4)) rfl rfl rfl
      | bitlen =>
        simp only [Bool.and_eq_true, Bool.not_eq_true', beq_iff_eq] at h
        obtain ⟨⟨⟨e1, h2⟩, h3⟩, h4⟩ := h
        subst e1
        exact .of (s_bits (snd_e a c _ h2 X G).pe h3 (by rw [beq_iff_eq]; exact h4)) rfl rfl rfl
      | _ => cases h
    · cases h
  | .m1 m a b, c, E, h, X, G => by
    unfold ckE at h
    split at h
    · simp only [Bool.and_eq_true, Bool.not_eq_true', beq_iff_eq] at h
      obtain ⟨⟨⟨⟨⟨⟨h1, e1⟩, h2⟩, h3⟩, h4⟩, h5⟩, h6⟩ := h
      subst e1
      exact .of (s_m1 G.b.hu (fun e => by rw [e] at h1; cases h1) (snd_e a c _ h2 X G).pe (snd_e b c _ h3 X G).pe h4 h5 (by rw [beq_iff_eq]; exact h6)) rfl rfl rfl
    · cases h
  | .m2 m a b d, c, E, h, X, G => by
    unfold ckE at h
    split at h
    · cases m with
      | get =>
        simp only [Bool.and_eq_true, Bool.not_eq_true', beq_iff_eq] at h
        obtain ⟨⟨⟨⟨⟨⟨⟨e1, h2⟩, h3⟩, h4⟩, h5⟩, h6⟩, h7⟩, h8⟩ := h
        subst e1
        exact .of (s_get2 G.b.hu (snd_e a c _ h2 X G).pe (snd_e b c _ h3 X G).pe (snd_e d c _ h4 X G).pe h5 h6 h7 (by rw [beq_iff_eq]; exact h8)) rfl rfl rfl
      | _ => cases h
    · cases h
  | .lc elt t it cond ow, c, E, h, X, G => by
    unfold ckE at h
    split at h
    · simp only [Bool.and_eq_true, Bool.not_eq_true', beq_iff_eq, List.all_eq_true, decide_eq_true_eq] at h
      obtain ⟨⟨⟨⟨⟨⟨⟨e0, h1⟩, h2⟩, h3⟩, h4⟩, h5⟩, h6⟩, h7⟩ := h
      subst e0
      have hN : X.N.Nodup := by rw [G.N]; exact G.nd
      have B := blkOk_by h1
      rw [← G.N, ← G.sc] at B
      have eo := ownP_slots X.N ow
      have pi := snd_i it c _ _ h2 X G
      have gg := fun s H C cl fp => (show PG _ _ (gT X.K t) from tg_ok (G.blk h1 s H C cl fp) h3)
      have gc := fun s H C cl fp => show PTs _ _ (semBT X.K (evalA Γ gl cond)) from pts_ok (gl := gl) (Γ := Γ) (X := X.blk s H _ (compEnvC _ cl C X.env) fp) h4 fun e x e1 e2 => by
        subst e1
        subst e2
        rw [ckC] at h4
        exact (snd_e e _ _ h4 _ (G.blk h1 s H C cl fp)).pt
      have ge := fun s H C cl fp => (show PE _ _ (semE X.K Γ gl elt) from (snd_e elt _ _ h5 _ (G.blk h1 s H C cl fp)).pe)
      have hs := fun x => fold_ok' h6 X.env x
      have pe := fun pos => pe_lc (pos := pos) G.b.calm hN pi B gg gc ge hs
      rw [eo] at pe
      have p1 := fun pos => PE.imp (pe pos) fun σ H Q q => lc_sem h7 q
      refine ⟨p1 _, t_val (p1 _) rfl, fun _ => PE.imp (pe _) fun σ H Q q => lc_mk h7 q, fun _ {i y py spos} hy hl hw => ?_⟩
      have ps := ps_setLc (py := py) (spos := spos) G.b.calm hN hy hl hw pi B gg gc ge hs
      rw [eo] at ps
      refine ⟨PS.imp ps fun D σ H q => ?_, PS.imp ps fun D σ H q => ?_⟩
      · exact lc_sem h7 (asg_sem q)
      · exact lc_mk h7 (asg_sem q)
    · cases h
  | .mk e, c, E, h, X, G => by
    unfold ckE at h
    rw [Bool.and_eq_true] at h
    have q := snd_e e c E h.2 X G
    have p := q.mkk h.1
    refine .of p ?_ rfl rfl
    have hE := h.2
    have hm := h.1
    cases e with
    | lst es =>
      unfold ckE at hE
      split at hE
      · rfl
      · cases hE
    | b1 b a =>
      cases b with
      | list =>
        unfold ckE at hE
        dsimp only at hE
        split at hE
        · rfl
        · cases hE
      | _ => cases hm
    | lc elt t it cond ow =>
      unfold ckE at hE
      split at hE
      · rfl
      · cases hE
    | _ => cases hm
  | .lc2 .., c, E, h, X, G => by unfold ckE at h; cases h; all_goals simp
  | .dc .., c, E, h, X, G => by unfold ckE at h; cases h; all_goals simp
  | .dd es, c, E, h, X, G => by
    unfold ckE at h
    split at h
    · split at h
      · rename_i l e
        simp only [Bool.and_eq_true, decide_eq_true_eq] at h
        exact .of (Mr.s_dd e (snd_l es c l h.1 X G) h.2) rfl rfl rfl
      · cases h
    · cases h
theorem snd_and : ∀ (es : Exs) (c : Cc) (x : Expr) (xs : List Expr), ckEs c es (x :: xs) = true → ∀ X : Cx, GoodX Γ gl n c X → ∀ pos : Pos,
    PE X (.BoolOp .And (x :: xs) pos) (semBE X.K (evalA Γ gl es)) ∧ PW X (.BoolOp .And (x :: xs) pos) (semBT X.K (evalA Γ gl es))
  | .nil, c, x, xs, h, X, G, pos => by cases h
  | .cons e .nil, c, x, [], h, X, G, pos => by
    rw [ckEs] at h
    simp only [Bool.and_eq_true] at h
    have q := snd_e e c x h.1.1 X G
    exact ⟨s_and1 q.pe, t_and1 q.pt⟩
  | .cons e .nil, c, x, y :: ys, h, X, G, pos => by
    rw [ckEs, ckEs] at h
    · simp at h
    all_goals simp
  | .cons e (.cons e' es), c, x, [], h, X, G, pos => by
    rw [ckEs, ckEs] at h
    · simp at h
    all_goals simp
  | .cons e (.cons e' es), c, x, y :: ys, h, X, G, pos => by
    rw [ckEs] at h
    simp only [Bool.and_eq_true] at h
    have q := snd_e e c x h.1.1 X G
    obtain ⟨r1, r2⟩ := snd_and (.cons e' es) c y ys h.2 X G pos
    exact ⟨s_andc q.pe r1, t_andc q.pt r2⟩
theorem snd_or : ∀ (es : Exs) (c : Cc) (x : Expr) (xs : List Expr), ckEs c es (x :: xs) = true → ∀ X : Cx, GoodX Γ gl n c X → ∀ pos : Pos,
    PE X (.BoolOp .Or (x :: xs) pos) (semBE X.K (evalO Γ gl es)) ∧ PW X (.BoolOp .Or (x :: xs) pos) (semBT X.K (evalO Γ gl es))
  | .nil, c, x, xs, h, X, G, pos => by cases h
  | .cons e .nil, c, x, [], h, X, G, pos => by
    rw [ckEs] at h
    simp only [Bool.and_eq_true] at h
    have q := snd_e e c x h.1.1 X G
    exact ⟨s_or1 q.pe, t_or1 q.pt⟩
  | .cons e .nil, c, x, y :: ys, h, X, G, pos => by
    rw [ckEs, ckEs] at h
    · simp at h
    all_goals simp
  | .cons e (.cons e' es), c, x, [], h, X, G, pos => by
    rw [ckEs, ckEs] at h
    · simp at h
    all_goals simp
  | .cons e (.cons e' es), c, x, y :: ys, h, X, G, pos => by
    rw [ckEs] at h
    simp only [Bool.and_eq_true] at h
    have q := snd_e e c x h.1.1 X G
    obtain ⟨r1, r2⟩ := snd_or (.cons e' es) c y ys h.2 X G pos
    exact ⟨s_orc q.pe r1, t_orc q.pt r2⟩
theorem snd_d : ∀ (es : Exs) (c : Cc) (xs : List Expr), ckEs c es xs = true → ∀ X : Cx, GoodX Γ gl n c X → PA X xs (semD X.K Γ gl es) ∧ PA X xs (semVs X.K Γ gl es) ∧ (∀ y ys, xs = y :: ys → isStar y = false) ∧ ∀ y ys, xs = y :: ys → (ys.all fun e => !isStar e) = true
  | .nil, c, [], h, X, G => ⟨pad_nil, pav_nil, fun _ _ e => (by cases e), fun _ _ e => (by cases e)⟩
  | .nil, c, _ :: _, h, X, G => by cases h
  | .cons _ _, c, [], h, X, G => by cases h
  | .cons e es, c, x :: xs, h, X, G => by
    rw [ckEs] at h
    simp only [Bool.and_eq_true, Bool.not_eq_true'] at h
    have q := (snd_e e c x h.1.1 X G).pe
    obtain ⟨r1, r2, r3, r4⟩ := snd_d es c xs h.2 X G
    refine ⟨pad_cons q r1 h.1.2, pav_cons q r2 h.1.2, fun y ys e => by cases e; exact h.1.2, fun y ys e => ?_⟩
    cases e
    cases xs with
    | nil => rfl
    | cons z zs =>
      rw [List.all_cons, r3 z zs rfl, r4 z zs rfl]
      rfl
theorem snd_l : ∀ (es : Exs) (c : Cc) (xs : List Expr), ckEs c es xs = true → ∀ X : Cx, GoodX Γ gl n c X → Mr.PEs X Γ gl es xs
  | .nil, c, [], h, X, G => .nil
  | .nil, c, _ :: _, h, X, G => by cases h
  | .cons _ _, c, [], h, X, G => by cases h
  | .cons e es, c, x :: xs, h, X, G => by
    rw [ckEs] at h
    simp only [Bool.and_eq_true, Bool.not_eq_true'] at h
    exact .cons (snd_e e c x h.1.1 X G).pe (snd_l es c xs h.2 X G)
theorem snd_k : ∀ (es : Exs) (c : Cc) (xs : List Keyword), ckK c es xs = true → ∀ X : Cx, GoodX Γ gl n c X → PK X xs (semVs X.K Γ gl es)
  | .nil, c, [], h, X, G => pkv_nil
  | .nil, c, _ :: _, h, X, G => by cases h
  | .cons _ _, c, [], h, X, G => by cases h
  | .cons e es, c, ⟨nm, x, p⟩ :: xs, h, X, G => by
    rw [ckK] at h
    simp only [Bool.and_eq_true] at h
    exact pkv_cons (snd_e e c x h.1 X G).pe (snd_k es c xs h.2 X G)
theorem snd_i : ∀ (it : It) (c : Cc) (E T : Expr), ckI c it E T = true → ∀ X : Cx, GoodX Γ gl n c X → PI X T E (semI X.K Γ gl it)
  | .val e, c, E, T, h, X, G => by
    unfold ckI at h
    exact i_val (snd_e e c E h X G).pe
  | .rg1 a, c, E, T, h, X, G => by
    unfold ckI at h
    split at h
    · simp only [Bool.and_eq_true, Bool.not_eq_true'] at h
      obtain ⟨e1, bl⟩ := bltB_ok G h.1.1 (by decide +kernel)
      subst e1
      exact i_rg1 bl (snd_e a c _ h.1.2 X G).pe h.2
    · cases h
  | .rg2 a b, c, E, T, h, X, G => by
    unfold ckI at h
    split at h
    · simp only [Bool.and_eq_true, Bool.not_eq_true'] at h
      obtain ⟨e1, bl⟩ := bltB_ok G h.1.1.1.1 (by decide +kernel)
      subst e1
      exact i_rg2 bl (snd_e a c _ h.1.1.1.2 X G).pe (snd_e b c _ h.1.1.2 X G).pe h.1.2 h.2
    · cases h
  | .rg3 a b d, c, E, T, h, X, G => by
    unfold ckI at h
    split at h
    · simp only [Bool.and_eq_true, Bool.not_eq_true'] at h
      obtain ⟨e1, bl⟩ := bltB_ok G h.1.1.1.1.1.1 (by decide +kernel)
      subst e1
      exact i_rg3 bl (snd_e a c _ h.1.1.1.1.1.2 X G).pe (snd_e b c _ h.1.1.1.1.2 X G).pe (snd_e d c _ h.1.1.1.2 X G).pe h.1.1.2 h.1.2 h.2
    · cases h
  | .en a, c, E, T, h, X, G => by
    unfold ckI at h
    split at h
    · simp only [Bool.and_eq_true, Bool.not_eq_true'] at h
      obtain ⟨e1, bl⟩ := bltB_ok G h.1.1 (by decide +kernel)
      subst e1
      exact i_en bl (snd_e a c _ h.1.2 X G).pe h.2
    · cases h
  | .zp a b, c, E, T, h, X, G => by
    unfold ckI at h
    split at h
    · simp only [Bool.and_eq_true, Bool.not_eq_true'] at h
      obtain ⟨e1, bl⟩ := bltB_ok G h.1.1.1.1 (by decide +kernel)
      subst e1
      exact i_zp bl (snd_e a c _ h.1.1.1.2 X G).pe (snd_e b c _ h.1.1.2 X G).pe h.1.2 h.2
    · cases h
  | .rv a, c, E, T, h, X, G => by
    unfold ckI at h
    split at h
    · simp only [Bool.and_eq_true, Bool.not_eq_true'] at h
      obtain ⟨e1, bl⟩ := bltB_ok G h.1.1 (by decide +kernel)
      subst e1
      exact i_rv bl (snd_e a c _ h.1.2 X G).pe h.2
    · cases h
  | .itm _, c, E, T, h, X, G => by unfold ckI at h; cases h; all_goals simp
  | .vls _, c, E, T, h, X, G => by unfold ckI at h; cases h; all_goals simp
end
end
end Mp
end
section
set_option autoImplicit false
set_option linter.all false
set_option maxRecDepth 100000
set_option maxHeartbeats 8000000
/-! Mq6: statements, defs, tables: the look is sound. -/
namespace Mp
open PySem PySem.Spec PyProof.Rows L2
def lcM : Ex → Bool
  | .mk e => lcB e
  | e => lcB e
/-- does the store swap with the block's end -/
def swapB (sc : Scope) (x : Str) (pos : Pos) : Expr → Bool
  | .ListComp _ _ s p => locB sc x && (pos.line == p.line) && !(s.names.any fun (n, k) => n == x && (k == .local || k == .cell))
  | _ => false
def parB (c : Cc) (is : List Nat) (ts vs : List Expr) : Bool := match swS ts vs c.sc with
  | some none => true
  | some (some ns) => (match is, ts, vs with
    | [i, j], [.Name x _, .Name y _], [_, _] => decide (i ≠ j) && locB c.sc x && locB c.sc y && decide (ns = [x, y])
    | [i, j, l], [.Name x _, .Name y _, .Name z _], [_, _, _] => decide (i ≠ j) && decide (i ≠ l) && decide (j ≠ l) && locB c.sc x && locB c.sc y && locB c.sc z && decide (ns = [x, y, z])
    | _, _, _ => false)
  | none => false
def plainB (c : Cc) (ts : List Expr) : Expr → Bool
  | .Tuple vs _ _ => (match swS ts vs c.sc with
    | some none => true
    | _ => false)
  | _ => true
mutual
def ckS (c : Cc) : Sm → Stmt → Bool
  | .asg t e, st => (match t, st with
    | .nm i, .Assign [.Name x _] v _ => decide (c.N[i]? = some x) && stB c.wr x && ckE c e v && (!isComp v || lcM e)
    | .tp is, .Assign [.Tuple ts _ _] v _ => namesB c is ts && ckE c e v && !isComp v && plainB c ts v
    | _, _ => false)
  | .par is es, st => (match st with
    | .Assign [.Tuple ts _ _] (.Tuple vs _ _) _ => namesB c is ts && ckEs c es vs && parB c is ts vs
    | _ => false)
  | .setI a b d, st => (match st with
    | .Assign [.Subscript x y _] v _ => ckE c a x && ckE c b y && ckE c d v && !isSlice y && !isComp v
    | _ => false)
  | .ex e, st => (match st with
    | .Expr v _ => ckE c e v && !isComp v
    | _ => false)
  | .ifs e a b, st => (match st with
    | .If t xs ys _ => ckE c e t && ckSs c a xs && ckSs c b ys
    | _ => false)
  | .whl e b, st => (match st with
    | .While t xs [] _ => ckE c e t && ckSs c b xs
    | _ => false)
  | .for_ t it b, st => (match st with
    | .For tg iter xs [] _ => ckI c it iter tg && tgB c t tg && ckSs c b xs && !isSetD iter
    | _ => false)
  | .rtn e, st => (match st with
    | .Return (some v) _ => ckE c e v
    | _ => false)
  | .brk, st => (match st with
    | .Break _ => true
    | _ => false)
  | .cnt, st => (match st with
    | .Continue _ => true
    | _ => false)
  | .pass, st => (match st with
    | .Pass _ => true
    | _ => false)
  | .rse _ _, _ => true
  | .aug _ _ _, _ => false
def ckSs (c : Cc) : Sms → List Stmt → Bool
  | .nil, [] => true
  | .cons s ss, x :: xs => ckS c s x && ckSs c ss xs
  | _, _ => false
end
section
variable {Γ : Nat → List Val → M Val} {gl : List PyData} {n : Nat}
theorem locB_ok {c : Cc} {X : Cx} (G : GoodX Γ gl n c X) {x : Str} (h : locB c.sc x = true) : X.env.scope.names.lookup x = some .local := by
  rw [G.sc]
  unfold locB at h
  split at h
  · assumption
  · cases h
theorem blockF {c : Cc} {X : Cx} (G : GoodX Γ gl n c X) : X.env.scope.kind = .function := by rw [G.sc]; exact G.kd
theorem swap_ok {c : Cc} {X : Cx} (G : GoodX Γ gl n c X) {x : Str} {py pos : Pos} {e : Expr} (h : ∀ a b s p, e ≠ .SetComp a b s p) (h' : ∀ a b d s p, e ≠ .DictComp a b d s p) :
    swapsWith e (some (.Name x py)) pos.line X.env = pure (swapB c.sc x py e) := by
  have kb : (X.env.blockKind == .function) = true := by
    unfold PySem.Env.blockKind
    rw [blockF G]
    rfl
  cases e with
  | SetComp a b s p => exact absurd rfl (h a b s p)
  | DictComp a b d s p => exact absurd rfl (h' a b d s p)
  | ListComp a b s p =>
    unfold swapsWith swapB
    show (pure (X.env.blockKind == .function && X.env.kindOf x == some .local && py.line == p.line && !(s.names.any fun (n, k) => n == x && (k == .local || k == .cell))) : Sem Bool) = _
    have e1 : (X.env.kindOf x == some .local) = locB c.sc x := by
      show (X.env.scope.names.lookup x == some .local) = _
      rw [G.sc]
      unfold locB
      split
      · rename_i q
        rw [q]; rfl
      · rename_i q
        cases z : List.lookup x c.sc.names with
        | none => rfl
        | some k =>
          cases k with
          | «local» => exact absurd z q
          | _ => rfl
    rw [kb, e1, Bool.true_and]
  | _ => rfl
theorem lc_form {c : Cc} {e : Ex} {E : Expr} (h : ckE c e E = true) (hl : lcB e = true) : ∃ x g s p, E = .ListComp x g s p := by
  cases e with
  | lc elt t it cond ow =>
    unfold ckE at h
    split at h
    · exact ⟨_, _, _, _, rfl⟩
    · cases h
  | _ => cases hl
theorem asg_ok {c : Cc} {X : Cx} (G : GoodX Γ gl n c X) {i : Nat} {x : Str} {py pos : Pos} {e : Ex} {E : Expr} (hs : (decide (c.N[i]? = some x) && stB c.wr x) = true) (he : ckE c e E = true) (hc : (!isComp E || lcM e) = true) :
    PS X (.Assign [.Name x py] E pos) (semS X.K Γ gl (.asg (.nm i) e)) := by
  have hN : X.N.Nodup := by rw [G.N]; exact G.nd
  obtain ⟨h1, h2, h3⟩ := slot_ok G hs
  have q := snd_e (gl := gl) e c E he X G
  have plain : swapsWith E (some (.Name x py)) pos.line X.env = pure false → PS X (.Assign [.Name x py] E pos) (semS X.K Γ gl (.asg (.nm i) e)) := fun z => z_asgN hN h1 h2 h3 q.pe z
  cases hi : isComp E with
  | false => exact plain (swaps_ok hi _ _ _)
  | true =>
    rw [hi] at hc
    have fin : ∀ {e0 : Ex}, ckE c e0 E = true → lcB e0 = true → (swapsWith E (some (.Name x py)) pos.line X.env = pure true → PS X (.Assign [.Name x py] E pos) (semS X.K Γ gl (.asg (.nm i) e))) → PS X (.Assign [.Name x py] E pos) (semS X.K Γ gl (.asg (.nm i) e)) := by
      intro e0 k1 k2 k3
      obtain ⟨a, b, s, p, rfl⟩ := lc_form k1 k2
      have sw := swap_ok G (x := x) (py := py) (pos := pos) (e := .ListComp a b s p) (fun _ _ _ _ z => nomatch z) (fun _ _ _ _ _ z => nomatch z)
      cases hb : swapB c.sc x py (.ListComp a b s p) with
      | false => rw [hb] at sw; exact plain sw
      | true => rw [hb] at sw; exact k3 sw
    have loc : ∀ {e0 : Ex}, ckE c e0 E = true → lcB e0 = true → swapsWith E (some (.Name x py)) pos.line X.env = pure true → X.env.scope.names.lookup x = some .local := by
      intro e0 k1 k2 k3
      obtain ⟨a, b, s, p, rfl⟩ := lc_form k1 k2
      have sw := swap_ok G (x := x) (py := py) (pos := pos) (e := .ListComp a b s p) (fun _ _ _ _ z => nomatch z) (fun _ _ _ _ _ z => nomatch z)
      cases hb : swapB c.sc x py (.ListComp a b s p) with
      | false =>
        rw [hb, k3] at sw
        injection sw with z
        cases z
      | true =>
        unfold swapB at hb
        simp only [Bool.and_eq_true] at hb
        exact locB_ok G hb.1.1
    have hc' : lcM e = true := by simpa using hc
    cases hl : lcB e with
    | true => exact fin he hl fun z => (q.st hl h1 (loc he hl z) z).1
    | false =>
      cases e with
      | mk e0 =>
        have hl0 : lcB e0 = true := hc'
        have he0 : ckE c e0 E = true := by
          unfold ckE at he
          rw [Bool.and_eq_true] at he
          exact he.2
        have q0 := snd_e (gl := gl) e0 c E he0 X G
        exact fin he0 hl0 fun z => (q0.st hl0 h1 (loc he0 hl0 z) z).2
      | _ => first | (cases hl; done) | (cases hc'; done)
theorem par_sound {c : Cc} {X : Cx} (G : GoodX Γ gl n c X) {is : List Nat} {es : Exs} {ts vs : List Expr} {k k2 : Nat} {p p2 pos : Pos} (h1 : namesB c is ts = true) (h2 : ckEs c es vs = true) (h3 : parB c is ts vs = true) :
    PS X (.Assign [.Tuple ts k p] (.Tuple vs k2 p2) pos) (semS X.K Γ gl (.par is es)) := by
  have hN : X.N.Nodup := by rw [G.N]; exact G.nd
  have tn := names_ok G h1
  have pv := (snd_d (gl := gl) es c vs h2 X G).2.1
  unfold parB at h3
  rw [← G.sc] at h3
  split at h3
  · rename_i e
    exact z_par G.b.calm hN tn pv (swS_ok (blockF G) e _ _ _ _)
  · rename_i ns e
    have sw := swS_ok (blockF G) e k k2 p p2
    split at h3
    · rename_i i j x px y py a b
      simp only [Bool.and_eq_true, decide_eq_true_eq] at h3
      obtain ⟨⟨⟨k1, k2'⟩, k3⟩, rfl⟩ := h3
      cases tn with
      | cons t1 t =>
        cases t with
        | cons t2 t =>
          obtain ⟨_, _, e1, e2, _⟩ := t1
          obtain ⟨_, _, e3, e4, _⟩ := t2
          cases e1
          cases e3
          rw [G.sc] at k2' k3
          exact z_par2 G.b.calm hN e2 e4 k1 (locB_ok G k2') (locB_ok G k3) pv sw
    · rename_i i j l x px y py z pz a b d
      simp only [Bool.and_eq_true, decide_eq_true_eq] at h3
      obtain ⟨⟨⟨⟨⟨⟨k1, k2'⟩, k3⟩, k4⟩, k5⟩, k6⟩, rfl⟩ := h3
      cases tn with
      | cons t1 t =>
        cases t with
        | cons t2 t =>
          cases t with
          | cons t3 t =>
            obtain ⟨_, _, e1, e2, _⟩ := t1
            obtain ⟨_, _, e3, e4, _⟩ := t2
            obtain ⟨_, _, e5, e6, _⟩ := t3
            cases e1
            cases e3
            cases e5
            rw [G.sc] at k4 k5 k6
            exact z_par3 G.b.calm hN e2 e4 e6 k1 k2' k3 (locB_ok G k4) (locB_ok G k5) (locB_ok G k6) pv sw
    · cases h3
  · cases h3
theorem plain_ok {c : Cc} {X : Cx} (G : GoodX Γ gl n c X) {ts : List Expr} {v : Expr} (h : plainB c ts v = true) (k : Nat) (p : Pos) : swappedStores [.Tuple ts k p] v X.env = pure none := by
  cases hv : isTupE v with
  | false => exact swapped_ok hv _ _
  | true =>
    cases v with
    | Tuple vs k2 p2 =>
      unfold plainB at h
      dsimp only at h
      rw [← G.sc] at h
      split at h
      · rename_i e
        exact swS_ok (blockF G) e _ _ _ _
      · cases h
    | _ => cases hv
mutual
theorem snd_s : ∀ (s : Sm) (c : Cc) (st : Stmt), ckS c s st = true → ∀ X : Cx, GoodX Γ gl n c X → PS X st (semS X.K Γ gl s)
  | .asg t e, c, st, h, X, G => by
    unfold ckS at h
    split at h
    · simp only [Bool.and_eq_true] at h
      exact asg_ok G (by rw [Bool.and_eq_true]; exact h.1.1) h.1.2 h.2
    · simp only [Bool.and_eq_true, Bool.not_eq_true'] at h
      have hN : X.N.Nodup := by rw [G.N]; exact G.nd
      exact z_asgT G.b.calm hN (names_ok G h.1.1.1) (snd_e (gl := gl) e c _ h.1.1.2 X G).pe h.1.2 (plain_ok G h.2 _ _)
    · cases h
  | .par is es, c, st, h, X, G => by
    unfold ckS at h
    split at h
    · simp only [Bool.and_eq_true] at h
      exact par_sound G h.1.1 h.1.2 h.2
    · cases h
  | .setI a b d, c, st, h, X, G => by
    unfold ckS at h
    split at h
    · simp only [Bool.and_eq_true, Bool.not_eq_true'] at h
      exact z_setI G.b.hu (snd_e (gl := gl) a c _ h.1.1.1.1 X G).pe (snd_e (gl := gl) b c _ h.1.1.1.2 X G).pe (snd_e (gl := gl) d c _ h.1.1.2 X G).pe h.1.2 h.2
    · cases h
  | .ex e, c, st, h, X, G => by
    unfold ckS at h
    split at h
    · simp only [Bool.and_eq_true, Bool.not_eq_true'] at h
      exact z_ex (snd_e (gl := gl) e c _ h.1 X G).pe h.2
    · cases h
  | .ifs e a b, c, st, h, X, G => by
    unfold ckS at h
    split at h
    · simp only [Bool.and_eq_true] at h
      exact z_ifs (snd_e (gl := gl) e c _ h.1.1 X G).pt (snd_ss a c _ h.1.2 X G) (snd_ss b c _ h.2 X G)
    · cases h
  | .whl e b, c, st, h, X, G => by
    unfold ckS at h
    split at h
    · simp only [Bool.and_eq_true] at h
      exact z_whl G.own (snd_e (gl := gl) e c _ h.1 X G).pt (snd_ss b c _ h.2 X G)
    · cases h
  | .for_ t it b, c, st, h, X, G => by
    unfold ckS at h
    split at h
    · simp only [Bool.and_eq_true, Bool.not_eq_true'] at h
      exact z_for G.own G.b.calm (snd_i (gl := gl) it c _ _ h.1.1.1 X G) (tg_ok G h.1.1.2) (snd_ss b c _ h.1.2 X G) h.2
    · cases h
  | .rtn e, c, st, h, X, G => by
    unfold ckS at h
    split at h
    · exact z_rtn (snd_e (gl := gl) e c _ h X G).pe
    · cases h
  | .brk, c, st, h, X, G => by
    unfold ckS at h
    split at h
    · exact z_brk
    · cases h
  | .cnt, c, st, h, X, G => by
    unfold ckS at h
    split at h
    · exact z_cnt
    · cases h
  | .pass, c, st, h, X, G => by
    unfold ckS at h
    split at h
    · exact z_pass
    · cases h
  | .rse k e, c, st, h, X, G => z_rse
  | .aug _ _ _, c, st, h, X, G => by unfold ckS at h; cases h
theorem snd_ss : ∀ (ss : Sms) (c : Cc) (st : List Stmt), ckSs c ss st = true → ∀ X : Cx, GoodX Γ gl n c X → PSs X st (semSs X.K Γ gl ss)
  | .nil, c, [], h, X, G => z_nil
  | .nil, c, _ :: _, h, X, G => by cases h
  | .cons _ _, c, [], h, X, G => by cases h
  | .cons s ss, c, x :: xs, h, X, G => by
    unfold ckSs at h
    simp only [Bool.and_eq_true] at h
    exact z_cons (snd_s s c x h.1 X G) (snd_ss ss c xs h.2 X G)
end
end
end Mp
end
section
set_option autoImplicit false
set_option linter.all false
set_option maxRecDepth 100000
set_option maxHeartbeats 8000000
/-! Mq7: a table of functions is what the module's defs do. -/
namespace Mp
open PySem PySem.Spec PyProof.Rows L2
/-- a written def -/
structure Df where
  name : Str
  ps : List Str
  N : List Str
  params : Arguments
  body : List Stmt
  scope : Scope
def plainB' (p : Arguments) (ps : List Str) : Bool := (match p.posonlyargs with | [] => true | _ => false) && decide (p.args.map (·.arg) = ps) && p.vararg.isNone && (match p.kwonlyargs with | [] => true | _ => false) && p.kwarg.isNone && decide ps.Nodup
theorem plainB_ok {p : Arguments} {ps : List Str} (h : plainB' p ps = true) : PlainPs p ps := by
  unfold plainB' at h
  simp only [Bool.and_eq_true, decide_eq_true_eq, Option.isNone_iff_eq_none] at h
  obtain ⟨⟨⟨⟨⟨h1, h2⟩, h3⟩, h4⟩, h5⟩, h6⟩ := h
  refine ⟨?_, h2, h3, ?_, h5, h6⟩
  · split at h1
    · assumption
    · cases h1
  · split at h4
    · assumption
    · cases h4
def scopeB (sc : Scope) (N ps : List Str) : Bool := (match sc.kind with | .function => true | _ => false) && !sc.isCoroutine && !sc.isGenerator && decide N.Nodup && decide (N.take ps.length = ps) && (ps.all fun x => stB sc x) && (sc.names.all fun y => match y.2 with | .free => false | _ => true)
theorem scopeB_ok {sc : Scope} {N ps : List Str} (h : scopeB sc N ps = true) : FnScope N ps sc := by
  unfold scopeB at h
  simp only [Bool.and_eq_true, decide_eq_true_eq, Bool.not_eq_true', List.all_eq_true] at h
  obtain ⟨⟨⟨⟨⟨⟨h1, h2⟩, h3⟩, h4⟩, h5⟩, h6⟩, h7⟩ := h
  refine ⟨?_, h2, h3, h4, h5, fun x hx => ?_, fun y hy e => ?_⟩
  · split at h1
    · assumption
    · cases h1
  · have q := h6 x hx
    unfold stB at q
    split at q
    · rename_i e; exact .inl e
    · rename_i e; exact .inr e
    · cases q
  · have q := h7 y hy
    rw [e] at q
    cases q
def fnTab (ds : List Df) : List (Str × List Str) := ds.map fun d => (d.name, d.ps)
def defB (ft : List (Str × List Str)) (gls : List Str) (fn : Fn) (d : Df) : Bool := decide (fn.np = d.ps.length) && decide (fn.ns = d.N.length) && ckSs ⟨d.scope, d.scope, d.N, ft, gls⟩ fn.body d.body && scopeB d.scope d.N d.ps && plainB' d.params d.ps
def tabB (ft : List (Str × List Str)) (gls : List Str) : List Fn → List Df → Bool
  | [], [] => true
  | fn :: fns, d :: ds => defB ft gls fn d && tabB ft gls fns ds
  | _, _ => false
theorem tabB_get {ft : List (Str × List Str)} {gls : List Str} : ∀ {fns : List Fn} {ds : List Df}, tabB ft gls fns ds = true → ∀ (k : Nat) (d : Df), ds[k]? = some d → ∃ fn, fns[k]? = some fn ∧ defB ft gls fn d = true
  | [], [], _, k, d, e => by simp at e
  | fn :: fns, d0 :: ds, h, k, d, e => by
    rw [tabB, Bool.and_eq_true] at h
    cases k with
    | zero =>
      simp at e
      subst e
      exact ⟨fn, rfl, h.1⟩
    | succ k => exact tabB_get h.2 k d (by simpa using e)
  | [], _ :: _, h, _, _, _ => by cases h
  | _ :: _, [], h, _, _, _ => by cases h
theorem Rel.trunc {m t : List Addr} {Z H : Hp} {S : Store} (r : Rel (m ++ t) Z S H) : Rel m Z (S.take m.length) H := by
  have sub : ∀ {i : Nat} {o : Ob}, (S.take m.length)[i]? = some (some o) → S[i]? = some (some o) := by
    intro i o e
    rw [List.getElem?_take] at e
    split at e
    · exact e
    · cases e
  have up : ∀ {i : Nat} {a : Addr}, m[i]? = some a → (m ++ t)[i]? = some a := fun e => by rw [List.getElem?_append_left (List.getElem?_eq_some_iff.mp e).1]; exact e
  refine ⟨r.sub, ?_, fun i o a e1 e2 => r.cell i o a (sub e1) (up e2), fun i j o o' a e1 e2 e3 e4 => r.inj i j o o' a (sub e1) (sub e2) (up e3) (up e4), fun a ha => r.al a (List.mem_append_left _ ha)⟩
  have q := r.len
  rw [List.length_append] at q
  rw [List.length_take]
  omega
theorem Nxt.trunc {m m' : List Addr} {Z Z' H H' : Hp} (n : Nxt m Z H m' Z' H') : Nxt m Z H m Z' H' := ⟨⟨[], by simp⟩, n.zle, n.keep, fun a h => .inl h, n.znew⟩
theorem env_start {K : PySem.W.Frag} {m : List Addr} {Z : Hp} {vals : List Val} {vs : List V} {N : List Str} (d : VRs K m Z vals vs) : ERel K m Z (vals.map some ++ List.replicate (N.length - vals.length) none) (L2.start N vs) := by
  have len := d.len
  unfold L2.start
  rw [len]
  refine ⟨by simp [len], fun i v e => ?_⟩
  have get : ∀ {vs : List Val} {us : List V}, VRs K m Z vs us → ∀ {j : Nat} {x : Val}, vs[j]? = some x → ∃ u, us[j]? = some u ∧ VR K m Z x u := by
    intro vs us d
    unfold VRs at d
    induction d with
    | nil => intro j x e; simp at e
    | cons a b ih =>
      intro j x e
      cases j with
      | zero => simp at e; subst e; exact ⟨_, rfl, a⟩
      | succ j => simpa using ih (by simpa using e)
  by_cases hi : i < vals.length
  · rw [List.getElem?_append_left (by simpa using hi), List.getElem?_map] at e
    cases hx : vals[i]? with
    | none => rw [hx] at e; cases e
    | some x =>
      rw [hx] at e
      cases e
      obtain ⟨u, k1, k2⟩ := get d hx
      refine ⟨u, ?_, k2⟩
      rw [List.getElem?_append_left (by rw [List.length_map, len]; exact hi), List.getElem?_map, k1]
      rfl
  · rw [List.getElem?_append_right (by simpa using hi), List.getElem?_replicate] at e
    split at e <;> cases e
/-- what the law's module gives -/
structure ModG (P : Program) (w : World) (K : PySem.W.Frag) (mg : Str → Option Value) (base : Heap) (ds : List Df) (gls : List Str) (gl : List PyData) : Prop where
  defs : ∀ (k : Nat) (d : Df), ds[k]? = some d → ∃ f fd, FunD K d.name d.name d.params d.body d.scope [] [] f fd ∧ mg d.name = some (.ref f)
  blt : ∀ x, x ∈ bltNames → mg x = none
  gls : ∀ (k : Nat) (x : Str), gls[k]? = some x → ∃ u v d, mg x = some u ∧ RelV v u ∧ gl[k]? = some d ∧ ∀ Z, DR Z d v
  mod : ∃ o, base.get? sysModules = some o
section
variable {P : Program} {w : World} {K : PySem.W.Frag} {mg : Str → Option Value} {base : Heap} {T : Tab} {ds : List Df} {gls : List Str}
theorem tab_sound (G : ModG P w K mg base ds gls T.gl) (hT : tabB (fnTab ds) gls T.fns ds = true) : ∀ (n k : Nat) (d : Df), ds[k]? = some d → ∃ f, mg d.name = some (.ref f) ∧ PySem.W.keepIn K (.ref f) = true ∧ FnG P w K mg base n f d.ps (semCall K (T.run n) k)
  | 0, k, d, hd => by
    obtain ⟨f, fd, F, hm⟩ := G.defs k d hd
    obtain ⟨fn, _, hB⟩ := tabB_get hT k d hd
    unfold defB at hB
    simp only [Bool.and_eq_true] at hB
    obtain ⟨oc, od, dV, kV, doc, pm, an, cdv, ct, osl, rfl, lk, cd, dfl, _⟩ := F.ex
    refine ⟨f, hm, F.kp, ⟨fun vs H Q h => ?_, PySem.W.fnOf d.name d.name d.params d.body d.scope dV kV doc pm an cdv ct, plainB_ok hB.2, ?_, fun A outer s H args us vs Q _ _ _ _ _ h => ?_⟩⟩
    · obtain ⟨_, _, _, _, _, _, e, _⟩ := h
      exact (no_ok e).elim
    · rcases dfl with ⟨_, e⟩ | ⟨e, _⟩
      · exact e
      · exact absurd rfl e
    · obtain ⟨_, _, _, _, _, _, e, _⟩ := h
      exact (no_ok e).elim
  | n + 1, k, d, hd => by
    obtain ⟨f, fd, F, hm⟩ := G.defs k d hd
    obtain ⟨fn, hfn, hB⟩ := tabB_get hT k d hd
    unfold defB at hB
    simp only [Bool.and_eq_true, decide_eq_true_eq] at hB
    obtain ⟨⟨⟨⟨b1, b2⟩, b3⟩, b4⟩, b5⟩ := hB
    have S := scopeB_ok b4
    obtain ⟨oc, od, dV, kV, doc, pm, an, cdv, ct, osl, rfl, lk, cd, dfl, _⟩ := F.ex
    have run : ∀ {vals : List Val} {S0 : Store} {v : Val} {S' : Store}, T.run (n + 1) k vals S0 = .ok v S' → Fn.run (T.run n) T.gl fn vals S0 = .ok v S' := by
      intro vals S0 v S' h
      unfold Tab.run at h
      rw [hfn] at h
      exact h
    have arity : ∀ {vals : List Val} {S0 : Store} {v : Val} {S' : Store}, Fn.run (T.run n) T.gl fn vals S0 = .ok v S' → vals.length = fn.np := by
      intro vals S0 v S' h
      unfold Fn.run at h
      split at h
      · assumption
      · cases h
    refine ⟨f, hm, F.kp, fn_g (N := d.N) lk cd S (fun vs H Q h => ?_) (plainB_ok b5) ?_ fun A outer s H vs Q room gd wish => ?_⟩
    · obtain ⟨vals, S0, v, S', m, Z, e, _, dv, _⟩ := h
      rw [dv.len, arity (run e), b1]
    · rcases dfl with ⟨_, e⟩ | ⟨e, _⟩
      · exact e
      · exact absurd rfl e
    · obtain ⟨vals, S0, v, S', m, Z, e, r, dv, fin⟩ := wish
      have e1 := run e
      have ar := arity e1
      refine ⟨semSs K (T.run n) T.gl fn.body, PSs.nox (snd_ss (n := n) fn.body _ _ b3 _ ?_), ?_⟩
      · refine ⟨⟨rfl, ?_, gd, G.mod⟩, rfl, S.nd, rfl, S.kind, fun x hx => ⟨?_, .inl rfl⟩, PassesOwn.never, room, G.blt, G.gls, fun j x ps hj => ?_⟩
        · have := room.units
          have := room.un
          show (A.deeper _).units + 65 < cLine
          omega
        · unfold stB at hx
          split at hx
          · rename_i q; exact .inl q
          · rename_i q; exact .inr q
          · cases hx
        · have hj' : (fnTab ds)[j]? = some (x, ps) := hj
          unfold fnTab at hj'
          rw [List.getElem?_map] at hj'
          cases hd' : ds[j]? with
          | none => rw [hd'] at hj'; cases hj'
          | some d' =>
            rw [hd'] at hj'
            cases hj'
            exact tab_sound G hT n j d' hd'
      · unfold Fn.run at e1
        rw [if_pos ar] at e1
        have ew := env_start (N := d.N) dv
        rw [ar, ← b2] at ew
        cases q : execs (T.run n) T.gl fn.body (vals.map some ++ List.replicate (fn.ns - fn.np) none) S0 with
        | no => rw [q] at e1; cases e1
        | ex _ _ _ => rw [q] at e1; cases e1
        | ok fl S1 =>
          rw [q] at e1
          refine ⟨_, S0, fl, S1, m, Z, q, r, ew, fun m' Z' H' n' r' => ?_⟩
          obtain ⟨t, et⟩ := n'.pre
          have lm := r.len
          cases fl with
          | br _ => cases e1
          | ct _ => cases e1
          | nx env =>
            intro σ' _
            dsimp only at e1
            cases hr : fn.raw with
            | true =>
              rw [hr, if_pos rfl] at e1
              cases e1
              exact fin .non m' Z' H' n' r' (by simp only [VR, DR])
            | false =>
              rw [hr, if_neg Bool.false_ne_true] at e1
              cases e1
              subst et
              rw [← lm] at fin
              exact fin .non m Z' H' n'.trunc r'.trunc (by simp only [VR, DR])
          | rt v1 =>
            intro u hu
            dsimp only at e1
            cases hr : fn.raw with
            | true =>
              rw [hr, if_pos rfl] at e1
              cases e1
              exact fin u m' Z' H' n' r' hu
            | false =>
              rw [hr, if_neg Bool.false_ne_true] at e1
              cases ho : own v1 S1 with
              | no => rw [ho] at e1; cases e1
              | ex _ _ _ => rw [ho] at e1; cases e1
              | ok x S2 =>
                rw [ho] at e1
                cases e1
                obtain ⟨Z2, r2, n2, d2⟩ := own_ok ho r' hu
                subst et
                rw [← lm] at fin
                exact fin u m Z2 H' (n'.trans n2).trunc r2.trunc d2
end
end Mp
end
section
set_option autoImplicit false
set_option linter.all false
set_option maxRecDepth 100000
set_option maxHeartbeats 8000000
/-! Mq8: the law's end. -/
namespace Mp
open PySem PySem.Spec PyProof.Rows L2
/-! ### what the head looks at: the facts, and the object of sys.modules -/
def asM (g : Addr → Option Obj) (n : Nat) : List Addr := sysModules :: He.asD g n
def obsM (fa : List He.Fa) (fn : List He.DefD) (K : PySem.W.Frag) : He.AlD := ((K.lookup sysModules).isSome && (He.obsD fa fn K).1, (He.obsD fa fn K).2)
def SaysM (fa : List He.Fa) (fn : List He.DefD) (K : PySem.W.Frag) : Prop := He.SaysD fa fn K ∧ ∃ o, K.lookup sysModules = some o
theorem saysM_of {fa : List He.Fa} {fn : List He.DefD} {K : PySem.W.Frag} (h : obsM fa fn K = He.valD fn) : SaysM fa fn K := by
  have h1 : ((K.lookup sysModules).isSome && (He.obsD fa fn K).1) = true := congrArg Prod.fst h
  have h2 : (He.obsD fa fn K).2 = fn.map He.DefD.val := congrArg Prod.snd h
  rw [Bool.and_eq_true] at h1
  exact ⟨Prod.ext h1.2 h2, Option.isSome_iff_exists.mp h1.1⟩
def obsMG (n : Nat) (fa : List He.Fa) (fn : List He.DefD) (g : Addr → Option Obj) : He.AlD := obsM fa fn (He.frG g (asM g n))
def hookM (n : Nat) (fa : List He.Fa) (fn : List He.DefD) : PySem.W.Hook where
  α := He.AlD
  obs := fun s => obsMG n fa fn s.heap.get?
  val := fun _ => He.valD fn
  says := fun _ h => ∃ K : PySem.W.Frag, K.In h ∧ SaysM fa fn K
  of := fun _ _ e => ⟨_, He.frG_in, saysM_of e⟩
  keeps := fun _ _ _ ⟨K, i, c⟩ kp => ⟨K, i.keeps kp, c⟩
theorem obsMG_eq {n : Nat} {fa : List He.Fa} {fn : List He.DefD} {g : Addr → Option Obj} {s : Shared} (h : ∀ a, g a = s.heap.get? a) : obsMG n fa fn g = (hookM n fa fn).obs s := by
  show obsMG n fa fn g = obsMG n fa fn s.heap.get?
  rw [show g = s.heap.get? from funext h]
/-! ### the law's call -/
section
variable {P : Program} {w : World} {K : PySem.W.Frag} {mg mb : Str → Option Value} {k : Nat} {f a : Addr} {x : Str} {sp : List V → Hp → VK → Prop} {s1 : Shared} {vs : List Value} {ns : List Int}
/-- the script alone is tracked, or nothing -/
def scrH (a : Addr) (o : Obj) (ns : List Int) : Hp := fun b => if b = a then some (.frz o (.lst (ns.map V.int))) else none
theorem law_core {H : Hp} (kin : K.In s1.heap) (gm : s1.heap.Ns mainGlobals mg) (bm : s1.heap.Ns builtinsNs mb) (bb : ∀ x : Str, x ≠ "__name__" → mb x = bootBuiltins x) (lim : s1.heap.NoLimit) (gens : s1.gens = #[])
    (obj : s1.heap.get? a = some { cls := .type "list", data := .seq vs.toArray }) (room : Room k callerA) (F : ∀ base : Heap, K.In base → base.Ns mainGlobals mg → FnG P w K mg base k f [x] sp)
    (sps : sp [.ref a] H fun v _ => v = .bl true) (only : Only H) (ok : HOk P w H s1.heap) (hA : ∀ b, H b ≠ none → b = a) (hK : H a ≠ none → K.lookup a = none) :
    codeAny (model P w) callerA (.call (.ref f) ⟨[.ref a], []⟩) (fun r s' => r = .ok (.ret (.bool true)) ∧ OldK s1.heap s'.heap ∧ s'.os = s1.os ∧ AllBare s'.gens) s1 := by
  have free : ∀ {b : Addr} {o : Obj} {es : Array DictEntry} {ep : Nat}, s1.heap.get? b = some o → o.data = .dict es ep → H b = none := by
    intro b o es ep e d
    by_cases q : H b = none
    · exact q
    · rw [hA b q, obj] at e
      cases e
      cases d
  have ns' : ∀ {b : Addr} {m : Str → Option Value}, s1.heap.Ns b m → (hidT s1.heap H).Ns b m := by
    rintro b m ⟨o, es, ep, e, d, r⟩
    exact ⟨o, es, ep, hidT_get e (free e d), d, r⟩
  have kb : K.In (hidT s1.heap H) := by
    intro b o e
    refine hidT_get (kin b o e) ?_
    by_cases q : H b = none
    · exact q
    · have eb := hA b q
      rw [eb] at q e
      rw [hK q] at e
      cases e
  obtain ⟨mc, l1, l2⟩ := lim
  have env0 : Env0 P w K mg (hidT s1.heap H) callerA [] s1 H := {
    frames := rfl
    mod := ⟨kb, ns' gm, ⟨mb, ns' bm, bb⟩, ⟨mc, ns' l1, l2⟩⟩
    bs := fun b o e => of_hidT e
    bsz := by rw [hidT_size]; exact Nat.le_refl _
    funs := trivial
    frf := fun b hb => by cases hb
    hok := ok
    bare := .of_eq gens }
  obtain ⟨fd, pp, dn, run⟩ := (F _ kb (ns' gm)).run
  refine codeAny_mono (run callerA [] s1 H ⟨[.ref a], []⟩ [.ref a] [.ref a] _ room rfl env0 (binds_pos pp dn rfl) (.cons rfl .nil) sps) fun r s' h => ?_
  cases r with
  | error e => exact h.elim
  | ok fl =>
    cases fl with
    | ret u =>
      obtain ⟨v, H', os, bare, un, ok', rv, q⟩ := h
      have e : v = .bl true := q
      subst e
      cases rv
      refine ⟨rfl, OldK.of_keep fun b o e => ?_, os, bare⟩
      by_cases z : H b = none
      · exact un.keep b o e z (fun m => by cases m) (fun m => by cases m)
      · rcases only b with z' | ⟨ob, xs, z'⟩
        · exact absurd z' z
        · have q1 := (ok b _ z').1
          have q2 := (ok' b _ (un.frzs b ob _ z')).1
          rw [e] at q1
          cases q1
          exact q2
    | _ => exact h.elim
theorem law_g (kin : K.In s1.heap) (gm : s1.heap.Ns mainGlobals mg) (bm : s1.heap.Ns builtinsNs mb) (bb : ∀ x : Str, x ≠ "__name__" → mb x = bootBuiltins x) (lim : s1.heap.NoLimit) (gens : s1.gens = #[])
    (obj : s1.heap.get? a = some { cls := .type "list", data := .seq vs.toArray }) (hi : IntsAre vs ns) (hl : ns.length ≤ sizeLine) (room : Room k callerA) (F : ∀ base : Heap, K.In base → base.Ns mainGlobals mg → FnG P w K mg base k f [x] sp)
    (hsp : ∀ H : Hp, Only H → SqL K H a (ns.map V.int) → (∀ b o, H b = some o → ∃ ob xs, o = .frz ob (.lst xs)) → sp [.ref a] H fun v _ => v = .bl true) :
    codeAny (model P w) callerA (.call (.ref f) ⟨[.ref a], []⟩) (fun r s' => r = .ok (.ret (.bool true)) ∧ OldK s1.heap s'.heap ∧ s'.os = s1.os ∧ AllBare s'.gens) s1 := by
  have rv := L2.vals_ints hi
  have len := hi.length
  cases lk : K.lookup a with
  | some o =>
    have e := kin a o lk
    rw [obj] at e
    cases e
    have only : Only (fun _ => none) := fun _ => .inl rfl
    exact law_core kin gm bm bb lim gens obj room F (hsp _ only (.inr ⟨_, vs.toArray, _, lk, rfl, rfl, rfl, by rw [List.size_toArray, len]; exact hl, by simpa using rv⟩) fun b o e => by cases e) only (fun b u e => by cases e) (fun b e => absurd rfl e) fun e => absurd rfl e
  | none =>
    have only : Only (scrH a { cls := .type "list", data := .seq vs.toArray } ns) := fun b => by
      unfold scrH
      split
      · exact .inr ⟨_, _, rfl⟩
      · exact .inl rfl
    have here : scrH a { cls := .type "list", data := .seq vs.toArray } ns a = some (.frz { cls := .type "list", data := .seq vs.toArray } (.lst (ns.map V.int))) := if_pos rfl
    refine law_core kin gm bm bb lim gens obj room F (hsp _ only (.inl (.inr ⟨_, here⟩)) fun b o e => ?_) only (fun b u e => ?_) (fun b e => ?_) fun _ => lk
    · unfold scrH at e
      split at e
      · cases e
        exact ⟨_, _, rfl⟩
      · cases e
    · unfold scrH at e
      split at e
      · rename_i eb
        cases e
        subst eb
        exact ⟨obj, by rw [List.length_map]; exact hl, vs, _, rv, obj⟩
      · cases e
    · unfold scrH at e
      split at e
      · assumption
      · exact absurd rfl e
end
/-! ### the law by its table -/
/-- the defs as the head's data -/
def dfD (d : Df) : He.DefD := ⟨(d.name, none), d.name, d.name, d.params, d.body, d.scope, [], []⟩
/-- a constant of the module -/
inductive Gc where
  | int (x : Str) (i : Int) | str (x z : Str)
def Gc.fa : Gc → He.Fa
  | .int x i => .int x i
  | .str x z => .str x z
def Gc.nm : Gc → Str
  | .int x _ => x
  | .str x _ => x
def Gc.dat : Gc → PyData
  | .int _ i => .int i
  | .str _ z => .str z
def facts (ds : List Df) (cs : List Gc) : List He.Fa := ds.map (fun d => .glo d.name) ++ (bltNames.map .free ++ cs.map Gc.fa)
theorem fact_mem {fa : List He.Fa} {fn : List He.DefD} {K : PySem.W.Frag} (c : He.SaysD fa fn K) {f : He.Fa} (h : f ∈ fa) : f.ok K = true := by
  obtain ⟨i, hi⟩ := List.mem_iff_getElem?.mp h
  exact c.fact i hi
theorem modG_of {P : Program} {w : World} {K : PySem.W.Frag} {mg : Str → Option Value} {base : Heap} {ds : List Df} {cs : List Gc} (kin : K.In base) (gm : base.Ns mainGlobals mg) (c : SaysM (facts ds cs) (ds.map dfD) K) : ModG P w K mg base ds (cs.map Gc.nm) (cs.map Gc.dat) := by
  obtain ⟨c, o, ho⟩ := c
  refine ⟨fun k d hd => ?_, fun x hx => ?_, fun k x hx => ?_, o, kin _ _ ho⟩
  · obtain ⟨fd, F⟩ := c.def_ k (d := dfD d) (by rw [List.getElem?_map, hd]; rfl)
    have q := He.glo_ok kin gm (fact_mem c (f := .glo d.name) (List.mem_append_left _ (List.mem_map.mpr ⟨d, List.mem_of_getElem? hd, rfl⟩)))
    exact ⟨_, fd, F, q⟩
  · exact He.free_ok kin gm (fact_mem c (f := .free x) (List.mem_append_right _ (List.mem_append_left _ (List.mem_map.mpr ⟨x, hx, rfl⟩))))
  · rw [List.getElem?_map] at hx
    cases hc : cs[k]? with
    | none => rw [hc] at hx; cases hx
    | some g =>
      rw [hc] at hx
      cases hx
      have q := fact_mem c (f := g.fa) (List.mem_append_right _ (List.mem_append_right _ (List.mem_map.mpr ⟨g, List.mem_of_getElem? hc, rfl⟩)))
      cases g with
      | int x i =>
        obtain ⟨t, e⟩ := He.int_ok kin gm q
        exact ⟨_, .int i, .int i, e, ⟨t, rfl⟩, by rw [List.getElem?_map, hc]; rfl, fun Z => by simp only [DR]⟩
      | str x z =>
        obtain ⟨t, e⟩ := He.str_ok kin gm q
        exact ⟨_, .str z, .str z, e, ⟨t, rfl⟩, by rw [List.getElem?_map, hc]; rfl, fun Z => by simp only [DR]⟩
/-- THE END: the head's facts, the look, and the interpreter's word -/
theorem walk_m {l : PySem.W.OpenLaw} {n : Nat} {q : Program} {loose : List Str} {XP : (Str → Option Value) → Heap → Prop} {d : DefRec} {T : Tab} {ds : List Df} {cs : List Gc} {k j m : Nat} {dl : Df}
    (hn : l.most = some n) (hn2 : n ≤ sizeLine) (hdf : d.params.defaults = []) (room : Room k callerA) (hgl : T.gl = cs.map Gc.dat) (hT : tabB (fnTab ds) (cs.map Gc.nm) T.fns ds = true) (hj : ds[j]? = some dl) (hps : dl.ps.length = 1) (hnm : d.name = dl.name)
    (law : ∀ ns : List Int, ns.length ≤ n → ∃ S', T.run k j [.scr ns] [] = .ok (.d (.bool true)) S') :
    PySem.W.WalkO q loose XP (hookM m (facts ds cs) (ds.map dfD)).says l.row.toRowW d [] (fun f vs => PySem.call f vs) := by
  refine Att.attach_call hn hdf fun w s₀ s1 mg mb fa o pm cd doc a vs ns G Y _ _ _ hmg obj hints hlen gens => ?_
  obtain ⟨K, kin, c⟩ := Y
  obtain ⟨x, ex⟩ : ∃ x, dl.ps = [x] := by
    match dl.ps, hps with
    | [x], _ => exact ⟨x, rfl⟩
  refine law_g (x := x) (sp := semCall K (T.run k) j) kin G.T.g G.T.b G.T.builtins G.T.nolimit gens obj hints (Nat.le_trans hlen hn2) room (fun base kb gb => ?_) fun H only sq fz => ?_
  · obtain ⟨f, e1, _, F⟩ := tab_sound (P := l.prog) (w := w) (hgl ▸ modG_of kb gb c) hT k j dl hj
    rw [← hnm, hmg] at e1
    cases e1
    rw [ex] at F
    exact F
  · obtain ⟨S', e⟩ := law ns hlen
    refine ⟨[.scr ns], [], _, S', [], fun b => H b, e, ⟨fun b o h => .inl h, rfl, fun i o a h => by simp at h, fun i j o o' a h => by simp at h, fun a h => by simp at h⟩, .cons ⟨a, rfl, sq⟩ .nil, fun u m' Z' H' _ _ q => ?_⟩
    simpa only [VR, DR] using q
end Mp
end
section
set_option autoImplicit false
set_option linter.all false
set_option maxRecDepth 100000
set_option maxHeartbeats 2000000
/-! Ws0: the small Python's words backwards: wp m Q X S: m ends well from S with Q, or raises with X. -/
namespace Mp.Ww
open PySem
variable {α β : Type}
def wp (m : M α) (Q : α → Store → Prop) (X : Nat → PyData → Store → Prop) (S : Store) : Prop := match m S with
  | .ok a S' => Q a S'
  | .ex k v S' => X k v S'
  | .no => False
/-- no exception -/
def nx : Nat → PyData → Store → Prop := fun _ _ _ => False
theorem wp_congr (m : M α) (Q : α → Store → Prop) (X : Nat → PyData → Store → Prop) (S : Store) : wp m Q X S = wp m Q X S := rfl
section
variable {Q : α → Store → Prop} {Q' : β → Store → Prop} {X : Nat → PyData → Store → Prop} {S : Store}
theorem wp_bnd (m : M α) (f : α → M β) : wp (bnd m f) Q' X S = wp m (fun a S' => wp (f a) Q' X S') X S := by
  unfold wp bnd
  cases m S <;> rfl
theorem wp_ret (a : α) : wp (ret a) Q X S = Q a S := by unfold wp; rfl
theorem wp_no : wp (no : M α) Q X S = False := by unfold wp; rfl
theorem wp_guard (b : Bool) {Q : Unit → Store → Prop} : wp (guard b) Q X S = (b = true ∧ Q () S) := by
  unfold wp guard
  cases b <;> simp
theorem wp_mono {m : M α} {Q1 : α → Store → Prop} {X1 : Nat → PyData → Store → Prop} (h : wp m Q1 X1 S) (hq : ∀ a S', Q1 a S' → Q a S') (hx : ∀ k v S', X1 k v S' → X k v S') : wp m Q X S := by
  unfold wp at *
  cases e : m S with
  | ok a S' => rw [e] at h; exact hq a S' h
  | ex k v S' => rw [e] at h; exact hx k v S' h
  | no => rw [e] at h; exact h
theorem wp_post {m : M α} {Q1 : α → Store → Prop} (h : wp m Q1 X S) (hq : ∀ a S', Q1 a S' → Q a S') : wp m Q X S := wp_mono h hq fun _ _ _ h => h
theorem wp_ok {m : M α} {a : α} {S' : Store} (e : m S = .ok a S') : wp m Q X S = Q a S' := by unfold wp; rw [e]
theorem ok_wp {m : M α} (h : wp m Q nx S) : ∃ a S', m S = .ok a S' ∧ Q a S' := by
  unfold wp at h
  cases e : m S with
  | ok a S' => rw [e] at h; exact ⟨a, S', rfl, h⟩
  | ex k v S' => rw [e] at h; exact h.elim
  | no => rw [e] at h; exact h.elim
/-- what comes is known -/
theorem eq_of_wp {m : M α} {a : α} {S' : Store} (h : wp m (fun b T => b = a ∧ T = S') nx S) : m S = .ok a S' := by
  obtain ⟨b, T, e, rfl, rfl⟩ := ok_wp h
  exact e
theorem wp_ofO_some (a : α) : wp (ofO (some a)) Q X S = Q a S := by unfold wp; rfl
theorem wp_ofO_of {o : Option α} {a : α} (h : o = some a) : wp (ofO o) Q X S = Q a S := by subst h; unfold wp; rfl
theorem wp_dat (x : PyData) {Q : Val → Store → Prop} : wp (dat x) Q X S = Q (.d x) S := by unfold wp; rfl
theorem wp_boo (b : Bool) {Q : Val → Store → Prop} : wp (boo b) Q X S = Q (.d (.bool b)) S := by unfold wp; rfl
theorem wp_toB (b : Bool) {Q : Bool → Store → Prop} : wp (toB (.d (.bool b))) Q X S = Q b S := by unfold wp; rfl
theorem wp_toI (i : Int) {Q : Int → Store → Prop} : wp (toI (.d (.int i))) Q X S = Q i S := by unfold wp; rfl
theorem wp_peek_d (x : PyData) {Q : PyData → Store → Prop} : wp (peek (.d x)) Q X S = Q x S := by unfold wp; rfl
theorem wp_own_d (x : PyData) {Q : PyData → Store → Prop} : wp (own (.d x)) Q X S = Q x S := by unfold wp; rfl
theorem wp_mkL (xs : List PyData) {Q : PyData → Store → Prop} : wp (mkL xs) Q X S = (fitL xs = true ∧ Q (.list xs) S) := by unfold mkL; rw [wp_bnd, wp_guard]; unfold wp; rfl
theorem wp_mkT (xs : List PyData) {Q : PyData → Store → Prop} : wp (mkT xs) Q X S = (fitL xs = true ∧ Q (.tuple xs) S) := by unfold mkT; rw [wp_bnd, wp_guard]; unfold wp; rfl
theorem wp_alloc (o : Ob) {Q : Val → Store → Prop} : wp (alloc o) Q X S = Q (.c S.length) (S ++ [some o]) := by unfold wp; rfl
/-- a cell's look -/
def look {γ : Type} (o : Option (Option Ob)) (f : Ob → Prop) : Prop := match o with
  | some (some b) => f b
  | _ => False
theorem look_congr {o o' : Option (Option Ob)} {f : Ob → Prop} (h : o = o') : look (γ := Unit) o f = look (γ := Unit) o' f := by rw [h]
theorem look_some (b : Ob) (f : Ob → Prop) : look (γ := Unit) (some (some b)) f = f b := rfl
def obD : Ob → PyData
  | .l xs => .list xs
  | .m kvs => .dict kvs
theorem wp_peek_c (i : Nat) {Q : PyData → Store → Prop} : wp (peek (.c i)) Q X S = look (γ := Unit) S[i]? fun b => Q (obD b) S := by
  unfold wp peek look
  dsimp only
  rcases S[i]? with _ | _ | _ | _ <;> rfl
theorem wp_own_c (i : Nat) {Q : PyData → Store → Prop} : wp (own (.c i)) Q X S = look (γ := Unit) S[i]? fun b => Q (obD b) (S.set i none) := by
  unfold wp own look
  dsimp only
  rcases S[i]? with _ | _ | _ | _ <;> rfl
end
/-! ### expressions -/
section
variable {Γ : Nat → List Val → M Val} {gl : List PyData} {env : Env} {Q : Val → Store → Prop} {X : Nat → PyData → Store → Prop} {S : Store}
/-- an expression's, a statement's words; the names' slots are looked at -/
def wE (Γ : Nat → List Val → M Val) (gl : List PyData) (e : Ex) (env : Env) (Q : Val → Store → Prop) (X : Nat → PyData → Store → Prop) (S : Store) : Prop := wp (eval Γ gl e env) Q X S
def wD (Γ : Nat → List Val → M Val) (gl : List PyData) (e : Exs) (env : Env) (Q : List PyData → Store → Prop) (X : Nat → PyData → Store → Prop) (S : Store) : Prop := wp (evalD Γ gl e env) Q X S
def wV (Γ : Nat → List Val → M Val) (gl : List PyData) (e : Exs) (env : Env) (Q : List Val → Store → Prop) (X : Nat → PyData → Store → Prop) (S : Store) : Prop := wp (evalV Γ gl e env) Q X S
def wA (Γ : Nat → List Val → M Val) (gl : List PyData) (e : Exs) (env : Env) (Q : Bool → Store → Prop) (X : Nat → PyData → Store → Prop) (S : Store) : Prop := wp (evalA Γ gl e env) Q X S
def wO (Γ : Nat → List Val → M Val) (gl : List PyData) (e : Exs) (env : Env) (Q : Bool → Store → Prop) (X : Nat → PyData → Store → Prop) (S : Store) : Prop := wp (evalO Γ gl e env) Q X S
def wI (Γ : Nat → List Val → M Val) (gl : List PyData) (e : It) (env : Env) (Q : Src → Store → Prop) (X : Nat → PyData → Store → Prop) (S : Store) : Prop := wp (evalI Γ gl e env) Q X S
def wS (Γ : Nat → List Val → M Val) (gl : List PyData) (s : Sm) (env : Env) (Q : Fl → Store → Prop) (X : Nat → PyData → Store → Prop) (S : Store) : Prop := wp (exec Γ gl s env) Q X S
def wSs (Γ : Nat → List Val → M Val) (gl : List PyData) (s : Sms) (env : Env) (Q : Fl → Store → Prop) (X : Nat → PyData → Store → Prop) (S : Store) : Prop := wp (execs Γ gl s env) Q X S
theorem wE_congr {e : Ex} {env' : Env} (h : env = env') : wE Γ gl e env Q X S = wE Γ gl e env' Q X S := by rw [h]
theorem wD_congr {e : Exs} {env' : Env} {Q : List PyData → Store → Prop} (h : env = env') : wD Γ gl e env Q X S = wD Γ gl e env' Q X S := by rw [h]
theorem wV_congr {e : Exs} {env' : Env} {Q : List Val → Store → Prop} (h : env = env') : wV Γ gl e env Q X S = wV Γ gl e env' Q X S := by rw [h]
theorem wA_congr {e : Exs} {env' : Env} {Q : Bool → Store → Prop} (h : env = env') : wA Γ gl e env Q X S = wA Γ gl e env' Q X S := by rw [h]
theorem wO_congr {e : Exs} {env' : Env} {Q : Bool → Store → Prop} (h : env = env') : wO Γ gl e env Q X S = wO Γ gl e env' Q X S := by rw [h]
theorem wI_congr {e : It} {env' : Env} {Q : Src → Store → Prop} (h : env = env') : wI Γ gl e env Q X S = wI Γ gl e env' Q X S := by rw [h]
theorem wS_congr {e : Sm} {env' : Env} {Q : Fl → Store → Prop} (h : env = env') : wS Γ gl e env Q X S = wS Γ gl e env' Q X S := by rw [h]
theorem wSs_congr {e : Sms} {env' : Env} {Q : Fl → Store → Prop} (h : env = env') : wSs Γ gl e env Q X S = wSs Γ gl e env' Q X S := by rw [h]
/-- a name's slot -/
def slot (o : Option (Option Val)) (f : Val → Prop) : Prop := match o with
  | some (some v) => f v
  | _ => False
theorem slot_congr {o o' : Option (Option Val)} {f : Val → Prop} (h : o = o') : slot o f = slot o' f := by rw [h]
theorem slot_some (v : Val) (f : Val → Prop) : slot (some (some v)) f = f v := rfl
/-- a branch: neither way is looked at before the test is known -/
def bra (b : Bool) (p q : Prop) : Prop := if b = true then p else q
theorem bra_congr {b b' : Bool} {p q : Prop} (h : b = b') : bra b p q = bra b' p q := by rw [h]
theorem bra_t (p q : Prop) : bra true p q = p := if_pos rfl
theorem bra_f (p q : Prop) : bra false p q = q := if_neg Bool.false_ne_true
theorem wp_ite {α : Type} (b : Bool) (m n : M α) {Q : α → Store → Prop} : wp (if b = true then m else n) Q X S = bra b (wp m Q X S) (wp n Q X S) := by
  cases b <;> rfl
theorem wp_getV (i : Nat) : wp (getV env i) Q X S = slot env[i]? fun v => Q v S := by
  unfold wp getV slot
  rcases env[i]? with _ | _ | _ <;> rfl
theorem e_var (i : Nat) : wE Γ gl (.var i) env Q X S = slot env[i]? fun v => Q v S := by unfold wE; rw [eval, wp_getV]
theorem e_con (x : PyData) : wE Γ gl (.con x) env Q X S = Q (.d x) S := by unfold wE; rw [eval]; rfl
theorem e_glb (k : Nat) : wE Γ gl (.glb k) env Q X S = wp (ofO gl[k]?) (fun x S => Q (.d x) S) X S := by unfold wE; rw [eval, wp_bnd]; unfold wp; rfl
theorem e_tup (es : Exs) : wE Γ gl (.tup es) env Q X S = wD Γ gl es env (fun xs S => fitL xs = true ∧ Q (.d (.tuple xs)) S) X S := by
  unfold wE wD; rw [eval]; simp only [wp_bnd, wp_mkT, wp_dat]
theorem e_lst (es : Exs) : wE Γ gl (.lst es) env Q X S = wD Γ gl es env (fun xs S => fitL xs = true ∧ Q (.d (.list xs)) S) X S := by
  unfold wE wD; rw [eval]; simp only [wp_bnd, wp_mkL, wp_dat]
theorem e_bin (o : BinK) (a b : Ex) : wE Γ gl (.bin o a b) env Q X S = wE Γ gl a env (fun v S => wE Γ gl b env (fun u S => wp (peek v) (fun x S => wp (peek u) (fun y S => wp (binD o x y) (fun z S => Q (.d z) S) X S) X S) X S) X S) X S := by
  unfold wE; rw [eval]; simp only [wp_bnd, wp_dat]
theorem e_cmp (o : CmpK) (a b : Ex) : wE Γ gl (.cmp o a b) env Q X S = wE Γ gl a env (fun v S => wE Γ gl b env (fun u S => wp (peek v) (fun x S => wp (peek u) (fun y S => wp (cmpD o x y) (fun z S => Q (.d (.bool z)) S) X S) X S) X S) X S) X S := by
  unfold wE; rw [eval]; simp only [wp_bnd, wp_boo]
theorem e_chn (o o' : CmpK) (a b c : Ex) : wE Γ gl (.chn o o' a b c) env Q X S = wE Γ gl a env (fun v S => wE Γ gl b env (fun u S => wp (peek v) (fun x S => wp (peek u) (fun y S => wp (cmpD o x y) (fun r S =>
    bra r (wE Γ gl c env (fun w S => wp (peek u) (fun y' S => wp (peek w) (fun z S => wp (cmpD o' y' z) (fun t S => Q (.d (.bool t)) S) X S) X S) X S) X S) (Q (.d (.bool false)) S)) X S) X S) X S) X S) X S := by
  unfold wE; rw [eval]; simp only [wp_bnd, wp_boo, wp_ite]
theorem e_and (es : Exs) : wE Γ gl (.and es) env Q X S = wA Γ gl es env (fun b S => Q (.d (.bool b)) S) X S := by unfold wE wA; rw [eval]; simp only [wp_bnd, wp_boo]
theorem e_or (es : Exs) : wE Γ gl (.or es) env Q X S = wO Γ gl es env (fun b S => Q (.d (.bool b)) S) X S := by unfold wE wO; rw [eval]; simp only [wp_bnd, wp_boo]
theorem e_not (a : Ex) : wE Γ gl (.not a) env Q X S = wE Γ gl a env (fun v S => wp (toB v) (fun b S => Q (.d (.bool (!b))) S) X S) X S := by unfold wE; rw [eval]; simp only [wp_bnd, wp_boo]
theorem e_ite (t a b : Ex) : wE Γ gl (.ite t a b) env Q X S = wE Γ gl t env (fun v S => wp (toB v) (fun c S => bra c (wE Γ gl a env Q X S) (wE Γ gl b env Q X S)) X S) X S := by
  unfold wE; rw [eval]; simp only [wp_bnd, wp_ite]
theorem e_ix (a b : Ex) : wE Γ gl (.ix a b) env Q X S = wE Γ gl a env (fun v S => wE Γ gl b env (fun u S => wp (peek u) (fun i S => wp (ixV v i) (fun z S => Q (.d z) S) X S) X S) X S) X S := by
  unfold wE; rw [eval]; simp only [wp_bnd, wp_dat]
theorem e_slf (a b : Ex) : wE Γ gl (.slf a b) env Q X S = wE Γ gl a env (fun v S => wE Γ gl b env (fun u S => wp (toI u) (fun i S => wp (slV v (some i) none) (fun z S => Q (.d z) S) X S) X S) X S) X S := by
  unfold wE; rw [eval]; simp only [wp_bnd, wp_dat]
theorem e_slt (a b : Ex) : wE Γ gl (.slt a b) env Q X S = wE Γ gl a env (fun v S => wE Γ gl b env (fun u S => wp (toI u) (fun i S => wp (slV v none (some i)) (fun z S => Q (.d z) S) X S) X S) X S) X S := by
  unfold wE; rw [eval]; simp only [wp_bnd, wp_dat]
theorem e_slb (a b c : Ex) : wE Γ gl (.slb a b c) env Q X S = wE Γ gl a env (fun v S => wE Γ gl b env (fun u S => wp (toI u) (fun i S => wE Γ gl c env (fun w S => wp (toI w) (fun j S => wp (slV v (some i) (some j)) (fun z S => Q (.d z) S) X S) X S) X S) X S) X S) X S := by
  unfold wE; rw [eval]; simp only [wp_bnd, wp_dat]
/-- a list's items -/
def lsX (x : PyData) (f : List PyData → Prop) : Prop := match x with
  | .list xs => f xs
  | _ => False
theorem lsX_congr {x x' : PyData} {f : List PyData → Prop} (h : x = x') : lsX x f = lsX x' f := by rw [h]
theorem lsX_list (xs : List PyData) (f : List PyData → Prop) : lsX (.list xs) f = f xs := rfl
theorem e_rev (a : Ex) : wE Γ gl (.rev a) env Q X S = wE Γ gl a env (fun v S => wp (peek v) (fun x S => lsX x fun xs => Q (.d (.list xs.reverse)) S) X S) X S := by
  unfold wE; rw [eval]; simp only [wp_bnd]
  congr 1
  funext v S
  congr 1
  funext x S
  cases x <;> rfl
theorem e_call (f : Nat) (es : Exs) : wE Γ gl (.call f es) env Q X S = wV Γ gl es env (fun vs S => wp (Γ f vs) Q X S) X S := by unfold wE wV; rw [eval]; simp only [wp_bnd]
/-- what an option holds -/
def opt {α : Type} (o : Option α) (f : α → Prop) : Prop := match o with
  | some a => f a
  | none => False
theorem opt_congr {α : Type} {o o' : Option α} {f : α → Prop} (h : o = o') : opt o f = opt o' f := by rw [h]
theorem opt_some {α : Type} (a : α) (f : α → Prop) : opt (some a) f = f a := rfl
theorem opt_of {α : Type} {o : Option α} {a : α} {f : α → Prop} (h : o = some a) : opt o f = f a := by rw [h]; rfl
theorem wp_ofO {α : Type} (o : Option α) {Q : α → Store → Prop} : wp (ofO o) Q X S = opt o fun a => Q a S := by cases o <;> rfl
theorem e_callk (f : Nat) (es : Exs) (perm : List Nat) : wE Γ gl (.callk f es perm) env Q X S = wV Γ gl es env (fun vs S => opt (permL vs perm) fun us => wp (Γ f us) Q X S) X S := by
  unfold wE wV; rw [eval]; simp only [wp_bnd, wp_ofO]
/-- a built-in of one argument -/
def b1V (b : B1) (v : Val) : M PyData := match b with
  | .len => lenV v
  | b => bnd (peek v) fun x => b1D b x
theorem e_b1 (b : B1) (a : Ex) : wE Γ gl (.b1 b a) env Q X S = wE Γ gl a env (fun v S => wp (b1V b v) (fun z S => Q (.d z) S) X S) X S := by
  unfold wE; rw [eval]; simp only [wp_bnd]
  congr 1
  funext v S
  unfold b1V
  cases b <;> simp only [wp_bnd, wp_dat]
theorem e_b2 (b : B2) (a c : Ex) : wE Γ gl (.b2 b a c) env Q X S = wE Γ gl a env (fun v S => wE Γ gl c env (fun u S => wp (peek v) (fun x S => wp (own u) (fun y S => wp (b2D b x y) (fun z S => Q (.d z) S) X S) X S) X S) X S) X S := by
  unfold wE; rw [eval]; simp only [wp_bnd, wp_dat]
theorem e_isi (a : Ex) (t : Ty) : wE Γ gl (.isi a t) env Q X S = wE Γ gl a env (fun v S => wp (peek v) (fun x S => Q (.d (.bool (tyD t x))) S) X S) X S := by
  unfold wE; rw [eval]; simp only [wp_bnd, wp_boo]
theorem e_m0 (m : M0) (o : Ex) : wE Γ gl (.m0 m o) env Q X S = wE Γ gl o env (fun v S => wp (m0V m v) (fun z S => Q (.d z) S) X S) X S := by
  unfold wE; rw [eval]; simp only [wp_bnd, wp_dat]
theorem e_m1 (m : M1) (o a : Ex) : wE Γ gl (.m1 m o a) env Q X S = wE Γ gl o env (fun v S => wp (peek v) (fun x S => tyD (m1Y m) x = true ∧ wE Γ gl a env (fun u S => wp (own u) (fun y S => wp (m1V m v y) (fun z S => Q (.d z) S) X S) X S) X S) X S) X S := by
  unfold wE; rw [eval]; simp only [wp_bnd, wp_dat, wp_guard]
theorem e_m2 (m : M2) (o a b : Ex) : wE Γ gl (.m2 m o a b) env Q X S = wE Γ gl o env (fun v S => wp (peek v) (fun x S => tyD (m2Y m) x = true ∧ wE Γ gl a env (fun u S => wp (own u) (fun y S => wE Γ gl b env (fun w S => wp (own w) (fun t S => wp (m2V m v y t) (fun z S => Q (.d z) S) X S) X S) X S) X S) X S) X S) X S := by
  unfold wE; rw [eval]; simp only [wp_bnd, wp_dat, wp_guard]
/-- a list comprehension's turn -/
def lcB (Γ : Nat → List Val → M Val) (gl : List PyData) (elt : Ex) (t : Tg) (cond : Exs) (ow : List Nat) (env : Env) (v : Val) : M (Option PyData) :=
  bnd (bindT t v (wipeE env ow)) fun e1 => bnd (evalA Γ gl cond e1) fun b => if b = true then bnd (eval Γ gl elt e1) fun u => bnd (own u) fun y => ret (some y) else ret none
theorem wp_lcB (elt : Ex) (t : Tg) (cond : Exs) (ow : List Nat) (v : Val) {Q : Option PyData → Store → Prop} : wp (lcB Γ gl elt t cond ow env v) Q X S =
    wp (bindT t v (wipeE env ow)) (fun e1 S => wA Γ gl cond e1 (fun b S => bra b (wE Γ gl elt e1 (fun u S => wp (own u) (fun y S => Q (some y) S) X S) X S) (Q none S)) X S) X S := by
  unfold lcB wE wA; simp only [wp_bnd, wp_ite, wp_ret]
theorem e_lc (elt : Ex) (t : Tg) (it : It) (cond : Exs) (ow : List Nat) : wE Γ gl (.lc elt t it cond ow) env Q X S = wI Γ gl it env (fun s S => wp (lcL s.src (lcB Γ gl elt t cond ow env) s.its []) (fun ys S => fitL ys = true ∧ Q (.d (.list ys)) S) X S) X S := by
  unfold wE wI; rw [eval]; simp only [wp_bnd, wp_mkL, wp_dat]; rfl
theorem e_dd (es : Exs) : wE Γ gl (.dd es) env Q X S = wD Γ gl es env (fun xs S => wp (twoD [] xs) (fun kvs S => Q (.d (.dict kvs)) S) X S) X S := by
  unfold wE wD; rw [eval]; simp only [wp_bnd, wp_dat]
/-- a new cell -/
def mkX (v : Val) (f : Ob → Prop) : Prop := match v with
  | .d (.list xs) => f (.l xs)
  | .d (.dict kvs) => f (.m kvs)
  | _ => False
theorem mkX_congr {v v' : Val} {f : Ob → Prop} (h : v = v') : mkX v f = mkX v' f := by rw [h]
theorem mkX_list (xs : List PyData) (f : Ob → Prop) : mkX (.d (.list xs)) f = f (.l xs) := rfl
theorem mkX_dict (kvs : List (PyData × PyData)) (f : Ob → Prop) : mkX (.d (.dict kvs)) f = f (.m kvs) := rfl
theorem e_mk (a : Ex) : wE Γ gl (.mk a) env Q X S = wE Γ gl a env (fun v S => mkX v fun b => Q (.c S.length) (S ++ [some b])) X S := by
  unfold wE; rw [eval]; simp only [wp_bnd]
  congr 1
  funext v S
  rcases v with (_|_|_|_|xs|_|kvs)|_|_ <;> rfl
theorem d_nil {Q : List PyData → Store → Prop} : wD Γ gl .nil env Q X S = Q [] S := by unfold wD; rw [evalD]; rfl
theorem d_cons (e : Ex) (es : Exs) {Q : List PyData → Store → Prop} : wD Γ gl (.cons e es) env Q X S = wE Γ gl e env (fun v S => wp (own v) (fun x S => wD Γ gl es env (fun xs S => Q (x :: xs) S) X S) X S) X S := by
  unfold wE wD; rw [evalD]; simp only [wp_bnd, wp_ret]
theorem v_nil {Q : List Val → Store → Prop} : wV Γ gl .nil env Q X S = Q [] S := by unfold wV; rw [evalV]; rfl
theorem v_cons (e : Ex) (es : Exs) {Q : List Val → Store → Prop} : wV Γ gl (.cons e es) env Q X S = wE Γ gl e env (fun v S => wV Γ gl es env (fun vs S => Q (v :: vs) S) X S) X S := by
  unfold wE wV; rw [evalV]; simp only [wp_bnd, wp_ret]
theorem a_nil {Q : Bool → Store → Prop} : wA Γ gl .nil env Q X S = Q true S := by unfold wA; rw [evalA]; rfl
theorem a_cons (e : Ex) (es : Exs) {Q : Bool → Store → Prop} : wA Γ gl (.cons e es) env Q X S = wE Γ gl e env (fun v S => wp (toB v) (fun b S => bra b (wA Γ gl es env Q X S) (Q false S)) X S) X S := by
  unfold wE wA; rw [evalA]; simp only [wp_bnd, wp_ite, wp_ret]
theorem o_nil {Q : Bool → Store → Prop} : wO Γ gl .nil env Q X S = Q false S := by unfold wO; rw [evalO]; rfl
theorem o_cons (e : Ex) (es : Exs) {Q : Bool → Store → Prop} : wO Γ gl (.cons e es) env Q X S = wE Γ gl e env (fun v S => wp (toB v) (fun b S => bra b (Q true S) (wO Γ gl es env Q X S)) X S) X S := by
  unfold wE wO; rw [evalO]; simp only [wp_bnd, wp_ite, wp_ret]
theorem i_val (e : Ex) {Q : Src → Store → Prop} : wI Γ gl (.val e) env Q X S = wE Γ gl e env (fun v S => wp (walkV v) Q X S) X S := by unfold wI wE; rw [evalI]; simp only [wp_bnd]
theorem i_rg1 (a : Ex) {Q : Src → Store → Prop} : wI Γ gl (.rg1 a) env Q X S = wE Γ gl a env (fun v S => wp (toI v) (fun j S => in62 j = true ∧ Q ⟨rng 0 j.toNat, none⟩ S) X S) X S := by
  unfold wI wE; rw [evalI]; simp only [wp_bnd, wp_guard, wp_ret]
theorem i_rg2 (a b : Ex) {Q : Src → Store → Prop} : wI Γ gl (.rg2 a b) env Q X S = wE Γ gl a env (fun v S => wE Γ gl b env (fun u S => wp (toI v) (fun i S => wp (toI u) (fun j S => (in62 i && in62 j) = true ∧ Q ⟨rng i (j - i).toNat, none⟩ S) X S) X S) X S) X S := by
  unfold wI wE; rw [evalI]; simp only [wp_bnd, wp_guard, wp_ret]
theorem i_rg3 (a b c : Ex) {Q : Src → Store → Prop} : wI Γ gl (.rg3 a b c) env Q X S = wE Γ gl a env (fun v S => wE Γ gl b env (fun u S => wE Γ gl c env (fun w S => wp (toI v) (fun i S => wp (toI u) (fun j S => wp (toI w) (fun k S => (in62 i && in62 j && decide (k = -1)) = true ∧ Q ⟨rngC i (-1) (i - j).toNat, none⟩ S) X S) X S) X S) X S) X S) X S := by
  unfold wI wE; rw [evalI]; simp only [wp_bnd, wp_guard, wp_ret]
theorem i_en (e : Ex) {Q : Src → Store → Prop} : wI Γ gl (.en e) env Q X S = wE Γ gl e env (fun v S => wp (enumV v) Q X S) X S := by unfold wI wE; rw [evalI]; simp only [wp_bnd]
theorem i_zp (a b : Ex) {Q : Src → Store → Prop} : wI Γ gl (.zp a b) env Q X S = wE Γ gl a env (fun v S => wE Γ gl b env (fun u S => wp (own v) (fun x S => wp (own u) (fun y S => wp (zipV x y) Q X S) X S) X S) X S) X S := by unfold wI wE; rw [evalI]; simp only [wp_bnd]
theorem i_rv (e : Ex) {Q : Src → Store → Prop} : wI Γ gl (.rv e) env Q X S = wE Γ gl e env (fun v S => wp (own v) (fun x S => wp (revV x) Q X S) X S) X S := by unfold wI wE; rw [evalI]; simp only [wp_bnd]
end
/-! ### statements -/
section
variable {Γ : Nat → List Val → M Val} {gl : List PyData} {env : Env} {Q : Fl → Store → Prop} {X : Nat → PyData → Store → Prop} {S : Store}
/-- what comes behind a statement -/
def thn (Γ : Nat → List Val → M Val) (gl : List PyData) (ss : Sms) (Q : Fl → Store → Prop) (X : Nat → PyData → Store → Prop) (fl : Fl) (S : Store) : Prop := match fl with
  | .nx e => wSs Γ gl ss e Q X S
  | fl => Q fl S
theorem thn_congr {ss : Sms} {fl fl' : Fl} (h : fl = fl') : thn Γ gl ss Q X fl S = thn Γ gl ss Q X fl' S := by rw [h]
theorem thn_nx (ss : Sms) (e : Env) : thn Γ gl ss Q X (.nx e) S = wSs Γ gl ss e Q X S := rfl
theorem thn_br (ss : Sms) (e : Env) : thn Γ gl ss Q X (.br e) S = Q (.br e) S := rfl
theorem thn_ct (ss : Sms) (e : Env) : thn Γ gl ss Q X (.ct e) S = Q (.ct e) S := rfl
theorem thn_rt (ss : Sms) (v : Val) : thn Γ gl ss Q X (.rt v) S = Q (.rt v) S := rfl
theorem ss_nil : wSs Γ gl .nil env Q X S = Q (.nx env) S := by unfold wSs; rw [execs]; rfl
theorem ss_cons (s : Sm) (ss : Sms) : wSs Γ gl (.cons s ss) env Q X S = wS Γ gl s env (fun fl S => thn Γ gl ss Q X fl S) X S := by
  unfold wSs wS; rw [execs]; simp only [wp_bnd]
  congr 1
  funext fl S
  cases fl <;> rfl
theorem s_asg (t : Tg) (e : Ex) : wS Γ gl (.asg t e) env Q X S = wE Γ gl e env (fun v S => wp (bindT t v env) (fun e1 S => Q (.nx e1) S) X S) X S := by
  unfold wS wE; rw [exec]; simp only [wp_bnd, wp_ret]
theorem s_par (is : List Nat) (es : Exs) : wS Γ gl (.par is es) env Q X S = wV Γ gl es env (fun vs S => decide (vs.length = is.length ∧ vs.length ≤ 1000) = true ∧ Q (.nx (setVs env is vs)) S) X S := by
  unfold wS wV; rw [exec]; simp only [wp_bnd, wp_ret, wp_guard]
theorem s_setI (o i e : Ex) : wS Γ gl (.setI o i e) env Q X S = wE Γ gl e env (fun v S => wp (own v) (fun y S => wE Γ gl o env (fun w S => wE Γ gl i env (fun u S => wp (own u) (fun k S => wp (setV w k y) (fun _ S => Q (.nx env) S) X S) X S) X S) X S) X S) X S := by
  unfold wS wE; rw [exec]; simp only [wp_bnd, wp_ret]
theorem s_aug (i : Nat) (o : BinK) (e : Ex) : wS Γ gl (.aug i o e) env Q X S = slot env[i]? fun v => wE Γ gl e env (fun u S => wp (toI v) (fun x S => wp (toI u) (fun y S => wp (binD o (.int x) (.int y)) (fun z S => Q (.nx (env.set i (some (.d z)))) S) X S) X S) X S) X S := by
  unfold wS wE; rw [exec]; simp only [wp_bnd, wp_ret, wp_getV]
theorem s_ex (e : Ex) : wS Γ gl (.ex e) env Q X S = wE Γ gl e env (fun _ S => Q (.nx env) S) X S := by unfold wS wE; rw [exec]; simp only [wp_bnd, wp_ret]
theorem s_ifs (c : Ex) (a b : Sms) : wS Γ gl (.ifs c a b) env Q X S = wE Γ gl c env (fun v S => wp (toB v) (fun t S => bra t (wSs Γ gl a env Q X S) (wSs Γ gl b env Q X S)) X S) X S := by
  unfold wS wE wSs; rw [exec]; simp only [wp_bnd, wp_ite]
/-- a while's test, its body -/
def whC (Γ : Nat → List Val → M Val) (gl : List PyData) (c : Ex) (e : Env) : M Bool := bnd (eval Γ gl c e) toB
theorem wp_whC (c : Ex) {Q : Bool → Store → Prop} : wp (whC Γ gl c env) Q X S = wE Γ gl c env (fun v S => wp (toB v) Q X S) X S := by unfold whC wE; rw [wp_bnd]
def foB (Γ : Nat → List Val → M Val) (gl : List PyData) (t : Tg) (b : Sms) (v : Val) (e : Env) : M Fl := bnd (bindT t v e) fun e1 => execs Γ gl b e1
theorem wp_foB (t : Tg) (b : Sms) (v : Val) : wp (foB Γ gl t b v env) Q X S = wp (bindT t v env) (fun e1 S => wSs Γ gl b e1 Q X S) X S := by unfold foB wSs; rw [wp_bnd]
theorem wp_execs (b : Sms) : wp (execs Γ gl b env) Q X S = wSs Γ gl b env Q X S := by unfold wp; rfl
theorem s_whl (c : Ex) (b : Sms) : wS Γ gl (.whl c b) env Q X S = wp (whlL (whC Γ gl c) (fun e => execs Γ gl b e) fuel env) Q X S := by unfold wS; rw [exec]; rfl
theorem s_for (t : Tg) (it : It) (b : Sms) : wS Γ gl (.for_ t it b) env Q X S = wI Γ gl it env (fun s S => wp (forL s.src (foB Γ gl t b) s.its env) Q X S) X S := by unfold wS wI; rw [exec]; simp only [wp_bnd]; rfl
theorem s_rtn (e : Ex) : wS Γ gl (.rtn e) env Q X S = wE Γ gl e env (fun v S => Q (.rt v) S) X S := by unfold wS wE; rw [exec]; simp only [wp_bnd, wp_ret]
theorem s_brk : wS Γ gl .brk env Q X S = Q (.br env) S := by unfold wS; rw [exec]; rfl
theorem s_cnt : wS Γ gl .cnt env Q X S = Q (.ct env) S := by unfold wS; rw [exec]; rfl
theorem s_pass : wS Γ gl .pass env Q X S = Q (.nx env) S := by unfold wS; rw [exec]; rfl
theorem s_rse (k : Nat) (e : Ex) : wS Γ gl (.rse k e) env Q X S = wE Γ gl e env (fun v S => wp (own v) (fun x S => X k x S) X S) X S := by
  unfold wS wE; rw [exec]; simp only [wp_bnd]
  congr 1
  funext v S
  exact wp_bnd (own v) _
theorem bind_nm {Q : Env → Store → Prop} (i : Nat) (v : Val) : wp (bindT (.nm i) v env) Q X S = Q (env.set i (some v)) S := by unfold wp; rfl
theorem bind_tp {Q : Env → Store → Prop} (is : List Nat) (xs : List PyData) : wp (bindT (.tp is) (.d (.tuple xs)) env) Q X S = wp (setAt env is xs) Q X S := by unfold wp; rfl
theorem set_nil {Q : Env → Store → Prop} : wp (setAt env [] []) Q X S = Q env S := by unfold wp; rfl
theorem set_cons {Q : Env → Store → Prop} (i : Nat) (is : List Nat) (x : PyData) (xs : List PyData) : wp (setAt env (i :: is) (x :: xs)) Q X S = wp (setAt (env.set i (some (.d x))) is xs) Q X S := by unfold wp; rfl
theorem setVs_nil : setVs env [] [] = env := rfl
theorem setVs_cons (i : Nat) (is : List Nat) (v : Val) (vs : List Val) : setVs env (i :: is) (v :: vs) = setVs (env.set i (some v)) is vs := rfl
theorem wipe_nil : wipeE env [] = env := rfl
theorem wipe_cons (i : Nat) (is : List Nat) : wipeE env (i :: is) = (wipeE env is).set i none := rfl
end
/-! ### a def's call -/
section
variable {Γ : Nat → List Val → M Val} {gl : List PyData} {X : Nat → PyData → Store → Prop} {S : Store}
/-- how a body's end is told -/
def endQ (S : Store) (raw : Bool) (Q : Val → Store → Prop) (X : Nat → PyData → Store → Prop) : Fl → Store → Prop
  | .rt v, T => if raw = true then Q v T else wp (own v) (fun x T' => Q (.d x) (T'.take S.length)) X T
  | .nx _, T => if raw = true then Q (.d .none) T else Q (.d .none) (T.take S.length)
  | _, _ => False
theorem end_rt (v : Val) {Q : Val → Store → Prop} {T : Store} : endQ S false Q nx (.rt v) T = wp (own v) (fun x T' => Q (.d x) (T'.take S.length)) nx T := by unfold wp; rfl
theorem end_rt_raw (v : Val) {Q : Val → Store → Prop} {T : Store} : endQ S true Q nx (.rt v) T = Q v T := rfl
theorem end_nx (e : Env) {Q : Val → Store → Prop} {T : Store} : endQ S false Q nx (.nx e) T = Q (.d .none) (T.take S.length) := rfl
theorem end_nx_raw (e : Env) {Q : Val → Store → Prop} {T : Store} : endQ S true Q nx (.nx e) T = Q (.d .none) T := rfl
theorem run_wp {fn : Fn} {vs : List Val} {Q : Val → Store → Prop} (hl : vs.length = fn.np) (h : wSs Γ gl fn.body (vs.map some ++ List.replicate (fn.ns - fn.np) none) (endQ S fn.raw Q nx) nx S) : wp (fn.run Γ gl vs) Q nx S := by
  unfold wSs at h
  obtain ⟨fl, T, e, q⟩ := ok_wp h
  unfold wp Fn.run
  rw [if_pos hl, e]
  cases fl with
  | rt v =>
    unfold endQ at q
    dsimp only at q ⊢
    by_cases r : fn.raw = true
    · rw [if_pos r] at q ⊢
      exact q
    · rw [if_neg r] at q ⊢
      obtain ⟨x, T2, e2, q2⟩ := ok_wp q
      rw [e2]
      exact q2
  | nx env =>
    unfold endQ at q
    dsimp only at q ⊢
    by_cases r : fn.raw = true
    · rw [if_pos r] at q ⊢
      exact q
    · rw [if_neg r] at q ⊢
      exact q
  | br env => exact q.elim
  | ct env => exact q.elim
theorem run_ok {fn : Fn} {vs : List Val} {r : Val} {S' : Store} (hl : vs.length = fn.np) (h : wSs Γ gl fn.body (vs.map some ++ List.replicate (fn.ns - fn.np) none) (endQ S fn.raw (fun v T => v = r ∧ T = S') nx) nx S) : fn.run Γ gl vs S = .ok r S' := eq_of_wp (run_wp hl h)
end
end Mp.Ww
end
section
set_option autoImplicit false
set_option linter.all false
set_option maxRecDepth 100000
set_option maxHeartbeats 2000000
/-! Ws1: loops. -/
namespace Mp.Ww
open PySem
mutual
theorem beqD_refl : ∀ x : PyData, beqD x x = true
  | .none => rfl
  | .bool b => by simp [beqD]
  | .int i => by simp [beqD]
  | .str s => by simp [beqD]
  | .list xs => by rw [beqD]; exact beqL_refl xs
  | .tuple xs => by rw [beqD]; exact beqL_refl xs
  | .dict kvs => by rw [beqD]; exact beqK_refl kvs
theorem beqL_refl : ∀ xs : List PyData, beqL xs xs = true
  | [] => rfl
  | x :: xs => by rw [beqL, beqD_refl x, beqL_refl xs]; rfl
theorem beqK_refl : ∀ xs : List (PyData × PyData), beqK xs xs = true
  | [] => rfl
  | (a, b) :: xs => by rw [beqK, beqD_refl a, beqD_refl b, beqK_refl xs]; rfl
end
section
variable {X : Nat → PyData → Store → Prop} {S : Store}
/-- the walked cell, if any, stands -/
def Here (p : Option (Nat × List PyData)) (S : Store) : Prop := ∀ i xs, p = some (i, xs) → S[i]? = some (some (.l xs))
theorem here_none : Here none S := fun _ _ h => by cases h
theorem here_some {i : Nat} {xs : List PyData} (h : S[i]? = some (some (.l xs))) : Here (some (i, xs)) S := fun _ _ e => by cases e; exact h
theorem wp_stays {p : Option (Nat × List PyData)} {Q : Unit → Store → Prop} (h : Here p S) (q : Q () S) : wp (stays p) Q X S := by
  unfold wp stays
  cases p with
  | none => exact q
  | some ix =>
    obtain ⟨i, xs⟩ := ix
    dsimp only
    rw [h i xs rfl]
    dsimp only
    rw [beqL_refl, if_pos rfl]
    exact q
theorem wp_lcL {p : Option (Nat × List PyData)} {f : Val → M (Option PyData)} {Q : List PyData → Store → Prop} (Inv : List Val → List PyData → Store → Prop)
    (here : ∀ vs acc S, Inv vs acc S → Here p S)
    (step : ∀ v vs acc S, Inv (v :: vs) acc S → wp (f v) (fun o T => Inv vs (acc ++ o.toList) T) X S)
    (fin : ∀ acc S, Inv [] acc S → Q acc S) : ∀ (its : List Val) (acc : List PyData) (S : Store), Inv its acc S → wp (lcL p f its acc) Q X S
  | [], acc, S, h => by
    rw [lcL, wp_bnd]
    exact wp_stays (here _ _ _ h) (fin acc S h)
  | v :: vs, acc, S, h => by
    rw [lcL, wp_bnd]
    refine wp_stays (here _ _ _ h) ?_
    rw [wp_bnd]
    refine wp_post (step v vs acc S h) fun o T hT => ?_
    cases o with
    | none => exact wp_lcL Inv here step fin vs acc T (by simpa using hT)
    | some y => exact wp_lcL Inv here step fin vs (acc ++ [y]) T hT
/-- a comprehension that changes nothing -/
theorem wp_lc {p : Option (Nat × List PyData)} {f : Val → M (Option PyData)} {Q : List PyData → Store → Prop} {its : List Val} (g : Val → Option PyData) (hp : Here p S)
    (h : ∀ v ∈ its, wp (f v) (fun o T => o = g v ∧ T = S) X S) (q : Q (its.filterMap g) S) : wp (lcL p f its []) Q X S := by
  refine wp_lcL (fun vs acc T => T = S ∧ (∀ v ∈ vs, v ∈ its) ∧ acc ++ vs.filterMap g = its.filterMap g) (fun vs acc T i => i.1 ▸ hp) (fun v vs acc T i => ?_) (fun acc T i => ?_) its [] S ⟨rfl, fun _ h => h, rfl⟩
  · obtain ⟨rfl, i2, i3⟩ := i
    refine wp_post (h v (i2 v (List.mem_cons_self ..))) fun o T hT => ?_
    obtain ⟨rfl, rfl⟩ := hT
    refine ⟨rfl, fun w hw => i2 w (List.mem_cons_of_mem _ hw), ?_⟩
    rw [← i3, List.filterMap_cons, List.append_assoc]
    cases g v <;> rfl
  · obtain ⟨rfl, _, i3⟩ := i
    rw [List.filterMap_nil, List.append_nil] at i3
    rw [i3]
    exact q
theorem filterMap_d (g : PyData → Option PyData) (xs : List PyData) : (xs.map Val.d).filterMap (fun v => match v with | .d x => g x | _ => none) = xs.filterMap g := by
  rw [List.filterMap_map]; rfl
/-- over data -/
theorem wp_lcd {p : Option (Nat × List PyData)} {f : Val → M (Option PyData)} {Q : List PyData → Store → Prop} {xs : List PyData} (g : PyData → Option PyData) (hp : Here p S)
    (h : ∀ x ∈ xs, wp (f (.d x)) (fun o T => o = g x ∧ T = S) X S) (q : Q (xs.filterMap g) S) : wp (lcL p f (xs.map .d) []) Q X S := by
  refine wp_lc (fun v => match v with | .d x => g x | _ => none) hp (fun v hv => ?_) (by rw [filterMap_d]; exact q)
  obtain ⟨x, hx, rfl⟩ := List.mem_map.mp hv
  exact h x hx
theorem wp_lc_map {p : Option (Nat × List PyData)} {f : Val → M (Option PyData)} {Q : List PyData → Store → Prop} {xs : List PyData} (g : PyData → PyData) (hp : Here p S)
    (h : ∀ x ∈ xs, wp (f (.d x)) (fun o T => o = some (g x) ∧ T = S) X S) (q : Q (xs.map g) S) : wp (lcL p f (xs.map .d) []) Q X S :=
  wp_lcd (fun x => some (g x)) hp h (by rw [show (fun x => some (g x)) = some ∘ g from rfl, List.filterMap_eq_map]; exact q)
theorem filterMap_if (b : PyData → Bool) (xs : List PyData) : xs.filterMap (fun x => if b x = true then some x else none) = xs.filter b := by
  induction xs with
  | nil => rfl
  | cons x xs ih =>
    rw [List.filterMap_cons, List.filter_cons, ih]
    cases b x <;> rfl
theorem wp_lc_filter {p : Option (Nat × List PyData)} {f : Val → M (Option PyData)} {Q : List PyData → Store → Prop} {xs : List PyData} (b : PyData → Bool) (hp : Here p S)
    (h : ∀ x ∈ xs, wp (f (.d x)) (fun o T => o = (if b x = true then some x else none) ∧ T = S) X S) (q : Q (xs.filter b) S) : wp (lcL p f (xs.map .d) []) Q X S :=
  wp_lcd (fun x => if b x = true then some x else none) hp h (by rw [filterMap_if]; exact q)
theorem fmCongr {α β : Type} {f g : α → Option β} : ∀ {l : List α}, (∀ x ∈ l, f x = g x) → l.filterMap f = l.filterMap g
  | [], _ => rfl
  | x :: l, h => by
    rw [List.filterMap_cons, List.filterMap_cons, h x (List.mem_cons_self ..), fmCongr fun y hy => h y (List.mem_cons_of_mem _ hy)]
theorem rng_filterMap (lo : Int) (n : Nat) (g : Nat → Option PyData) (h : Val → Option PyData) (e : ∀ i < n, h (.d (.int (lo + (i : Nat)))) = g i) : (rng lo n).filterMap h = (List.range n).filterMap g := by
  unfold rng
  rw [List.filterMap_map]
  refine fmCongr fun i hi => ?_
  exact e i (List.mem_range.mp hi)
/-- over a range -/
theorem wp_lcr {p : Option (Nat × List PyData)} {f : Val → M (Option PyData)} {Q : List PyData → Store → Prop} {lo : Int} {n : Nat} (g : Int → Option PyData) (hp : Here p S)
    (h : ∀ i < n, wp (f (.d (.int (lo + (i : Nat))))) (fun o T => o = g (lo + (i : Nat)) ∧ T = S) X S) (q : Q ((List.range n).filterMap fun i => g (lo + (i : Nat))) S) : wp (lcL p f (rng lo n) []) Q X S := by
  refine wp_lc (fun v => match v with | .d (.int i) => g i | _ => none) hp (fun v hv => ?_) ?_
  · unfold rng at hv
    obtain ⟨i, hi, rfl⟩ := List.mem_map.mp hv
    exact h i (List.mem_range.mp hi)
  · rw [rng_filterMap lo n (fun i => g (lo + (i : Nat))) _ fun i hi => rfl]
    exact q
/-- how a turn of a for loop ends -/
def forQ (J : Env → Store → Prop) (Q : Fl → Store → Prop) : Fl → Store → Prop
  | .nx e, S => J e S
  | .ct e, S => J e S
  | .br e, S => Q (.nx e) S
  | .rt v, S => Q (.rt v) S
theorem forQ_nx (J : Env → Store → Prop) (Q : Fl → Store → Prop) (e : Env) : forQ J Q (.nx e) S = J e S := rfl
theorem forQ_ct (J : Env → Store → Prop) (Q : Fl → Store → Prop) (e : Env) : forQ J Q (.ct e) S = J e S := rfl
theorem forQ_br (J : Env → Store → Prop) (Q : Fl → Store → Prop) (e : Env) : forQ J Q (.br e) S = Q (.nx e) S := rfl
theorem forQ_rt (J : Env → Store → Prop) (Q : Fl → Store → Prop) (v : Val) : forQ J Q (.rt v) S = Q (.rt v) S := rfl
theorem wp_forL {p : Option (Nat × List PyData)} {f : Val → Env → M Fl} {Q : Fl → Store → Prop} (Inv : List Val → Env → Store → Prop)
    (here : ∀ vs env S, Inv vs env S → Here p S)
    (step : ∀ v vs env S, Inv (v :: vs) env S → wp (f v env) (forQ (Inv vs) Q) X S)
    (fin : ∀ env S, Inv [] env S → Q (.nx env) S) : ∀ (its : List Val) (env : Env) (S : Store), Inv its env S → wp (forL p f its env) Q X S
  | [], env, S, h => by
    rw [forL, wp_bnd]
    exact wp_stays (here _ _ _ h) (fin env S h)
  | v :: vs, env, S, h => by
    rw [forL, wp_bnd]
    refine wp_stays (here _ _ _ h) ?_
    rw [wp_bnd]
    refine wp_post (step v vs env S h) fun fl T hT => ?_
    cases fl with
    | nx e => exact wp_forL Inv here step fin vs e T hT
    | ct e => exact wp_forL Inv here step fin vs e T hT
    | br e => exact hT
    | rt v => exact hT
/-- the same, by what has been walked -/
theorem wp_forD {p : Option (Nat × List PyData)} {f : Val → Env → M Fl} {Q : Fl → Store → Prop} {its : List Val} {env : Env} (Inv : List Val → Env → Store → Prop)
    (here : ∀ vs env S, Inv vs env S → Here p S)
    (step : ∀ dn v vs env S, its = dn ++ v :: vs → Inv dn env S → wp (f v env) (forQ (Inv (dn ++ [v])) Q) X S)
    (fin : ∀ env S, Inv its env S → Q (.nx env) S) (h : Inv [] env S) : wp (forL p f its env) Q X S := by
  refine wp_forL (fun vs env S => ∃ dn, its = dn ++ vs ∧ Inv dn env S) (fun vs env S i => let ⟨_, _, h⟩ := i; here _ _ _ h) (fun v vs env S i => ?_) (fun env S i => ?_) its env S ⟨[], rfl, h⟩
  · obtain ⟨dn, e, hi⟩ := i
    refine wp_post (step dn v vs env S e hi) fun fl T hT => ?_
    cases fl with
    | nx e1 => exact ⟨dn ++ [v], by simpa using e, hT⟩
    | ct e1 => exact ⟨dn ++ [v], by simpa using e, hT⟩
    | br e1 => exact hT
    | rt v => exact hT
  · obtain ⟨dn, e, hi⟩ := i
    rw [List.append_nil] at e
    subst e
    exact fin env S hi
/-- a while loop by a measure -/
theorem wp_whlL {c : Env → M Bool} {f : Env → M Fl} {Q : Fl → Store → Prop} (Inv : Nat → Env → Store → Prop)
    (step : ∀ n env S, Inv n env S → wp (c env) (fun b T => bra b (wp (f env) (forQ (fun e T => ∃ m, m < n ∧ Inv m e T) Q) X T) (Q (.nx env) T)) X S) : ∀ (k n : Nat) (env : Env) (S : Store), n < k → Inv n env S → wp (whlL c f k env) Q X S
  | 0, n, env, S, hk, _ => absurd hk (Nat.not_lt_zero n)
  | k + 1, n, env, S, hk, h => by
    rw [whlL, wp_bnd]
    refine wp_post (step n env S h) fun b T hT => ?_
    rw [wp_ite]
    cases b with
    | false => exact hT
    | true =>
      rw [bra_t] at hT ⊢
      rw [wp_bnd]
      refine wp_post hT fun fl T' hT' => ?_
      cases fl with
      | nx e =>
        obtain ⟨m, hm, hi⟩ := hT'
        exact wp_whlL Inv step k m e T' (by omega) hi
      | ct e =>
        obtain ⟨m, hm, hi⟩ := hT'
        exact wp_whlL Inv step k m e T' (by omega) hi
      | br e => exact hT'
      | rt v => exact hT'
theorem wp_whl {c : Env → M Bool} {f : Env → M Fl} {Q : Fl → Store → Prop} {env : Env} (Inv : Nat → Env → Store → Prop) (n : Nat) (hn : n < 1000000000) (h : Inv n env S)
    (step : ∀ n env S, Inv n env S → wp (c env) (fun b T => bra b (wp (f env) (forQ (fun e T => ∃ m, m < n ∧ Inv m e T) Q) X T) (Q (.nx env) T)) X S) : wp (whlL c f fuel env) Q X S :=
  wp_whlL Inv step fuel n env S hn h
end
end Mp.Ww
end
section
set_option autoImplicit false
set_option linter.all false
set_option maxRecDepth 100000
set_option maxHeartbeats 2000000
/-! Ws2: the words backwards, as one function of the text: whnf walks it. -/
namespace Mp.Ww
open PySem
abbrev XT := Nat → PyData → Store → Prop
structure Wp {α : Type} (m : M α) (Q : α → Store → Prop) (X : XT) (S : Store) : Prop where
  go : wp m Q X S
theorem Wp_eq {α : Type} (m : M α) (Q : α → Store → Prop) (X : XT) (S : Store) : Wp m Q X S = wp m Q X S := propext ⟨fun h => h.go, fun h => ⟨h⟩⟩
structure Look (o : Option (Option Ob)) (K : Ob → Prop) : Prop where
  go : look (γ := Unit) o K
theorem Look_eq (o : Option (Option Ob)) (K : Ob → Prop) : Look o K = look (γ := Unit) o K := propext ⟨fun h => h.go, fun h => ⟨h⟩⟩
theorem look_of {o : Option (Option Ob)} {b : Ob} {K : Ob → Prop} (h : o = some (some b)) (k : K b) : Look o K := by rw [Look_eq]; subst h; exact k
theorem Look.ex {o : Option (Option Ob)} {K : Ob → Prop} (h : Look o K) : ∃ b, o = some (some b) ∧ K b := by
  rw [Look_eq] at h
  unfold look at h
  rcases o with _ | _ | b
  · exact h.elim
  · exact h.elim
  · exact ⟨b, rfl, h⟩
theorem Opt.ex0 {α : Type} {o : Option α} {K : α → Prop} (h : opt o K) : ∃ b, o = some b ∧ K b := by
  unfold opt at h
  rcases o with _ | b
  · exact h.elim
  · exact ⟨b, rfl, h⟩
structure Opt {α : Type} (o : Option α) (K : α → Prop) : Prop where
  go : opt o K
theorem Opt_eq {α : Type} (o : Option α) (K : α → Prop) : Opt o K = opt o K := propext ⟨fun h => h.go, fun h => ⟨h⟩⟩
theorem Opt.of {α : Type} {o : Option α} {a : α} {K : α → Prop} (h : o = some a) (k : K a) : Opt o K := by rw [Opt_eq]; subst h; exact k
structure Bra (b : Bool) (p q : Prop) : Prop where
  go : bra b p q
theorem Bra_eq (b : Bool) (p q : Prop) : Bra b p q = bra b p q := propext ⟨fun h => h.go, fun h => ⟨h⟩⟩
theorem Opt.ex {α : Type} {o : Option α} {K : α → Prop} (h : Opt o K) : ∃ b, o = some b ∧ K b := by
  rw [Opt_eq] at h
  exact Opt.ex0 h
theorem Opt.glb {gl : List PyData} {k : Nat} {a : PyData} {K : PyData → Prop} (h : gl[k]? = some a) (q : K a) : Opt gl[k]? K := Opt.of h q
theorem Bra.t {b : Bool} {p q : Prop} (h : b = true) (k : p) : Bra b p q := by rw [Bra_eq]; subst h; exact k
theorem Bra.f {b : Bool} {p q : Prop} (h : b = false) (k : q) : Bra b p q := by rw [Bra_eq]; subst h; exact k
theorem Bra.both {b : Bool} {p q : Prop} (h : b = true → p) (h' : b = false → q) : Bra b p q := by
  cases b with
  | true => exact Bra.t rfl (h rfl)
  | false => exact Bra.f rfl (h' rfl)
/-! ### values -/
def pk (v : Val) (S : Store) (K : PyData → Prop) : Prop := match v with
  | .d x => K x
  | .c i => Look S[i]? fun b => K (obD b)
  | .scr _ => False
def ow (v : Val) (S : Store) (K : PyData → Store → Prop) : Prop := match v with
  | .d x => K x S
  | .c i => Look S[i]? fun b => K (obD b) (S.set i none)
  | .scr _ => False
def tb (v : Val) (K : Bool → Prop) : Prop := match v with
  | .d (.bool b) => K b
  | _ => False
def ti (v : Val) (K : Int → Prop) : Prop := match v with
  | .d (.int b) => K b
  | _ => False
section
variable {X : XT} {S : Store}
theorem wp_pk {v : Val} {K : PyData → Store → Prop} (h : pk v S fun x => K x S) : wp (peek v) K X S := by
  cases v with
  | d x => exact h
  | c i =>
    rw [wp_peek_c]
    obtain ⟨b, e, k⟩ := Look.ex h
    rw [e]
    exact k
  | scr _ => exact h.elim
theorem wp_ow {v : Val} {K : PyData → Store → Prop} (h : ow v S K) : wp (own v) K X S := by
  cases v with
  | d x => exact h
  | c i =>
    rw [wp_own_c]
    obtain ⟨b, e, k⟩ := Look.ex h
    rw [e]
    exact k
  | scr _ => exact h.elim
theorem wp_tb {v : Val} {K : Bool → Store → Prop} (h : tb v fun x => K x S) : wp (toB v) K X S := by
  rcases v with (_|_|_|_|_|_|_)|_|_ <;> first | exact h | exact h.elim
theorem wp_ti {v : Val} {K : Int → Store → Prop} (h : ti v fun x => K x S) : wp (toI v) K X S := by
  rcases v with (_|_|_|_|_|_|_)|_|_ <;> first | exact h | exact h.elim
end
/-! ### operators -/
structure Pu (m : M PyData) (K : PyData → Prop) : Prop where
  go : ∀ S, ∃ x, m S = .ok x S ∧ K x
theorem Pu_eq (m : M PyData) (K : PyData → Prop) : Pu m K = ∀ S, ∃ x, m S = .ok x S ∧ K x := propext ⟨fun h => h.go, fun h => ⟨h⟩⟩
structure PuB (m : M Bool) (K : Bool → Prop) : Prop where
  go : ∀ S, ∃ x, m S = .ok x S ∧ K x
theorem PuB_eq (m : M Bool) (K : Bool → Prop) : PuB m K = ∀ S, ∃ x, m S = .ok x S ∧ K x := propext ⟨fun h => h.go, fun h => ⟨h⟩⟩
theorem Pu.of {m : M PyData} {K : PyData → Prop} {x : PyData} (h : ∀ S, m S = .ok x S) (k : K x) : Pu m K := by rw [Pu_eq]; exact fun S => ⟨x, h S, k⟩
theorem PuB.of {m : M Bool} {K : Bool → Prop} {x : Bool} (h : ∀ S, m S = .ok x S) (k : K x) : PuB m K := by rw [PuB_eq]; exact fun S => ⟨x, h S, k⟩
theorem Pu.wp {m : M PyData} {K : PyData → Store → Prop} {X : XT} {S : Store} (h : Pu m fun x => K x S) : wp m K X S := by
  rw [Pu_eq] at h
  obtain ⟨x, e, k⟩ := h S
  unfold Ww.wp
  rw [e]
  exact k
theorem PuB.wp {m : M Bool} {K : Bool → Store → Prop} {X : XT} {S : Store} (h : PuB m fun x => K x S) : wp m K X S := by
  rw [PuB_eq] at h
  obtain ⟨x, e, k⟩ := h S
  unfold Ww.wp
  rw [e]
  exact k
def bnX (o : BinK) (x y : PyData) (K : PyData → Prop) : Prop := match o, x, y with
  | .add, .int i, .int j => K (.int (i + j))
  | .add, .str a, .str b => a.length + b.length ≤ sizeLine ∧ K (.str (a ++ b))
  | .add, .list a, .list b => (a ++ b).length ≤ sizeLine ∧ K (.list (a ++ b))
  | .add, .tuple a, .tuple b => (a ++ b).length ≤ sizeLine ∧ K (.tuple (a ++ b))
  | .sub, .int i, .int j => K (.int (i - j))
  | .mul, .int i, .int j => bits i + bits j < 900000 ∧ K (.int (i * j))
  | .fdiv, .int i, .int j => (0 < j ∧ bits j < 9000) ∧ K (.int (i / j))
  | .mod, .int i, .int j => 0 < j ∧ K (.int (i % j))
  | o, x, y => Pu (binD o x y) K
theorem wp_bn {o : BinK} {x y : PyData} {K : PyData → Store → Prop} {X : XT} {S : Store} (h : bnX o x y fun z => K z S) : wp (binD o x y) K X S := by
  unfold bnX at h
  split at h
  · exact h
  · simp only [binD, addD, wp_bnd, wp_guard, decide_eq_true_eq]; exact h
  · simp only [binD, addD, wp_mkL, fitL, decide_eq_true_eq]; exact h
  · simp only [binD, addD, wp_mkT, fitL, decide_eq_true_eq]; exact h
  · exact h
  · simp only [binD, mulD, wp_bnd, wp_guard, decide_eq_true_eq]; exact h
  · simp only [binD, wp_bnd, wp_guard, decide_eq_true_eq]; exact h
  · simp only [binD, wp_bnd, wp_guard, decide_eq_true_eq]; exact h
  · exact h.wp
theorem eqv_int (i j : Int) : PyData.eqv (.int i) (.int j) = decide (i = j) := by
  simp only [PyData.eqv]
  exact Bool.eq_iff_iff.mpr (by simp)
theorem eqv_str (i j : Str) : PyData.eqv (.str i) (.str j) = decide (i = j) := by
  simp only [PyData.eqv]
  exact Bool.eq_iff_iff.mpr (by simp)
/-- of whole numbers -/
def cmI (o : CmpK) (i j : Int) (K : Bool → Prop) : Prop := match o with
  | .eq => K (decide (i = j))
  | .ne => K (!decide (i = j))
  | .lt => K (decide (i < j))
  | .le => K (!decide (j < i))
  | .gt => K (decide (j < i))
  | .ge => K (!decide (i < j))
  | o => PuB (cmpD o (.int i) (.int j)) K
def cmX0 (o : CmpK) (x y : PyData) (K : Bool → Prop) : Prop := match o, x, y with
  | .eq, .int i, .int j => K (decide (i = j))
  | .ne, .int i, .int j => K (!decide (i = j))
  | .lt, .int i, .int j => K (decide (i < j))
  | .le, .int i, .int j => K (!decide (j < i))
  | .gt, .int i, .int j => K (decide (j < i))
  | .ge, .int i, .int j => K (!decide (i < j))
  | .eq, x, y => PuB (eqD x y) K
  | .ne, x, y => PuB (eqD x y) fun b => K (!b)
  | .is, .bool a, .bool b => K (a == b)
  | o, x, y => PuB (cmpD o x y) K
structure cmX (o : CmpK) (x y : PyData) (K : Bool → Prop) : Prop where
  go : cmX0 o x y K
theorem cmX_eq (o : CmpK) (x y : PyData) (K : Bool → Prop) : cmX o x y K = cmX0 o x y K := propext ⟨fun h => h.go, fun h => ⟨h⟩⟩
theorem wp_cm {o : CmpK} {x y : PyData} {K : Bool → Store → Prop} {X : XT} {S : Store} (h : cmX o x y fun z => K z S) : wp (cmpD o x y) K X S := by
  have eqi : ∀ i j : Int, eqD (.int i) (.int j) = ret (decide (i = j)) := by
    intro i j
    rw [← eqv_int]
    rfl
  rw [cmX_eq] at h
  unfold cmX0 at h
  split at h
  · show wp (eqD _ _) K X S
    rw [eqi]; exact h
  · rw [show ∀ x y, cmpD .ne x y = bnd (eqD x y) fun r => ret (!r) from fun _ _ => rfl, wp_bnd, eqi]; exact h
  · exact h
  · exact h
  · exact h
  · exact h
  · exact h.wp
  · rw [show ∀ x y, cmpD .ne x y = bnd (eqD x y) fun r => ret (!r) from fun _ _ => rfl, wp_bnd]
    exact h.wp
  · exact h
  · exact h.wp
theorem cm_int {o : CmpK} {i j : Int} {K : Bool → Prop} (k : cmI o i j K) : cmX o (.int i) (.int j) K := by
  rw [cmX_eq]
  unfold cmX0
  cases o <;> exact k
theorem cm_is {a b : Bool} {K : Bool → Prop} (k : K (a == b)) : cmX .is (.bool a) (.bool b) K := by
  rw [cmX_eq]
  unfold cmX0
  exact k
theorem eqi (i j : Int) : eqD (.int i) (.int j) = ret (decide (i = j)) := by
  rw [← eqv_int]
  rfl
theorem PuB.ret {b : Bool} {m : M Bool} {K : Bool → Prop} (h : PuB m K) (e : m = Mp.ret b) : K b := by
  rw [PuB_eq] at h
  obtain ⟨x, e2, k⟩ := h []
  rw [e] at e2
  cases e2
  exact k
theorem cm_gen {o : CmpK} {x y : PyData} {K : Bool → Prop} (k : PuB (cmpD o x y) K) : cmX o x y K := by
  rw [cmX_eq]
  unfold cmX0
  split
  · exact k.ret (eqi _ _)
  · rename_i i j
    refine k.ret (b := !decide (i = j)) ?_
    show bnd (eqD (.int i) (.int j)) (fun r => Mp.ret (!r)) = _
    rw [eqi]
    rfl
  · exact k.ret rfl
  · exact k.ret rfl
  · exact k.ret rfl
  · exact k.ret rfl
  · exact k
  · rw [PuB_eq] at k ⊢
    intro S
    obtain ⟨b, e, q⟩ := k S
    change bnd (eqD _ _) (fun r => Mp.ret (!r)) S = _ at e
    unfold bnd at e
    split at e
    · rename_i a S' e2
      cases e
      exact ⟨a, e2, q⟩
    · cases e
    · cases e
  · exact k.ret rfl
  · exact k
theorem cm_eq {x y : PyData} {K : Bool → Prop} (k : PuB (eqD x y) K) : cmX .eq x y K := cm_gen k
theorem cm_ne {x y : PyData} {K : Bool → Prop} (k : PuB (eqD x y) fun b => K (!b)) : cmX .ne x y K := by
  refine cm_gen ?_
  rw [PuB_eq] at k ⊢
  intro S
  obtain ⟨b, e, q⟩ := k S
  refine ⟨!b, ?_, q⟩
  show bnd (eqD x y) (fun r => Mp.ret (!r)) S = _
  unfold bnd
  rw [e]
  rfl
/-! ### subscripts -/
def ixX (v : Val) (i : PyData) (S : Store) (K : PyData → Prop) : Prop := match v, i with
  | .d (.list xs), .int i => Opt (L2.atI xs i) K
  | .d (.tuple xs), .int i => Opt (L2.atI xs i) K
  | .c a, .int i => Look S[a]? fun b => match b with
    | .l xs => Opt (L2.atI xs i) K
    | .m kvs => Pu (ixD (.dict kvs) (.int i)) K
  | .c a, i => Look S[a]? fun b => Pu (ixD (obD b) i) K
  | .scr ns, .int i => Opt (L2.atI ns i) fun n => K (.int n)
  | .d x, i => Pu (ixD x i) K
  | _, _ => False
theorem wp_ix {v : Val} {i : PyData} {K : PyData → Store → Prop} {X : XT} {S : Store} (h : ixX v i S fun z => K z S) : wp (ixV v i) K X S := by
  unfold ixX at h
  split at h
  · obtain ⟨b, e, k⟩ := h.ex
    unfold ixV; simp only [wp_bnd, wp_peek_d, ixD, wp_ofO]; rw [e]; exact k
  · obtain ⟨b, e, k⟩ := h.ex
    unfold ixV; simp only [wp_bnd, wp_peek_d, ixD, wp_ofO]; rw [e]; exact k
  · obtain ⟨b, e, k⟩ := h.ex
    unfold ixV; simp only [wp_bnd, wp_peek_c]
    rw [e, look_some]
    cases b with
    | l xs =>
      obtain ⟨b, e, k⟩ := k.ex
      simp only [obD, ixD, wp_ofO]; rw [e]; exact k
    | m kvs => exact k.wp
  · obtain ⟨b, e, k⟩ := h.ex
    unfold ixV; simp only [wp_bnd, wp_peek_c]
    rw [e, look_some]
    exact k.wp
  · obtain ⟨b, e, k⟩ := h.ex
    unfold ixV; simp only [wp_bnd, wp_ofO, wp_ret]; rw [e]; exact k
  · unfold ixV; simp only [wp_bnd, wp_peek_d]; exact h.wp
  · exact h.elim
def slX (v : Val) (lo hi : Option Int) (S : Store) (K : PyData → Prop) : Prop := match v with
  | .d (.list xs) => K (.list (cutD xs lo hi))
  | .d (.tuple xs) => K (.tuple (cutD xs lo hi))
  | .d (.str z) => z.length ≤ sizeLine ∧ K (.str (L2.cutS z lo hi))
  | .scr ns => K (.list (cutD (ns.map .int) lo hi))
  | .c a => Look S[a]? fun b => Pu (slD (obD b) lo hi) K
  | .d x => Pu (slD x lo hi) K
theorem wp_sl {v : Val} {lo hi : Option Int} {K : PyData → Store → Prop} {X : XT} {S : Store} (h : slX v lo hi S fun z => K z S) : wp (slV v lo hi) K X S := by
  unfold slX at h
  split at h
  · exact h
  · exact h
  · unfold slV; simp only [wp_bnd, wp_peek_d, slD, wp_guard, decide_eq_true_eq]; exact h
  · exact h
  · obtain ⟨b, e, k⟩ := h.ex
    unfold slV; simp only [wp_bnd, wp_peek_c]
    rw [e, look_some]
    exact k.wp
  · unfold slV; simp only [wp_bnd, wp_peek_d]; exact h.wp
/-! ### built-ins -/
def lenX (v : Val) (S : Store) (K : PyData → Prop) : Prop := match v with
  | .d (.list xs) => K (.int xs.length)
  | .d (.tuple xs) => K (.int xs.length)
  | .d (.str z) => z.length ≤ sizeLine ∧ K (.int z.length)
  | .c a => Look S[a]? fun b => match b with
    | .l xs => K (.int xs.length)
    | .m _ => False
  | .scr ns => K (.int ns.length)
  | .d x => Pu (lenD x) K
theorem wp_len {v : Val} {K : PyData → Store → Prop} {X : XT} {S : Store} (h : lenX v S fun z => K z S) : wp (lenV v) K X S := by
  unfold lenX at h
  split at h
  · exact h
  · exact h
  · unfold lenV; simp only [wp_bnd, wp_peek_d, lenD, wp_guard, decide_eq_true_eq]; exact h
  · obtain ⟨b, e, k⟩ := h.ex
    unfold lenV; simp only [wp_bnd, wp_peek_c]
    rw [e, look_some]
    cases b with
    | l xs => exact k
    | m kvs => exact k.elim
  · exact h
  · unfold lenV; simp only [wp_bnd, wp_peek_d]; exact h.wp
def b1Y (b : B1) (x : PyData) (K : PyData → Prop) : Prop := match b, x with
  | .int, .int i => K (.int i)
  | .list, .list xs => K (.list xs)
  | .list, .tuple xs => K (.list xs)
  | .tuple, .list xs => K (.tuple xs)
  | .tuple, .tuple xs => K (.tuple xs)
  | .neg, .int i => K (.int (-i))
  | b, x => Pu (b1D b x) K
theorem wp_b1Y {b : B1} {x : PyData} {K : PyData → Store → Prop} {X : XT} {S : Store} (h : b1Y b x fun z => K z S) : wp (b1D b x) K X S := by
  unfold b1Y at h
  split at h
  · exact h
  · exact h
  · exact h
  · exact h
  · exact h
  · exact h
  · exact h.wp
def b1X (b : B1) (v : Val) (S : Store) (K : PyData → Prop) : Prop := match b with
  | .len => lenX v S K
  | b => pk v S fun x => b1Y b x K
theorem wp_b1 {b : B1} {v : Val} {K : PyData → Store → Prop} {X : XT} {S : Store} (h : b1X b v S fun z => K z S) : wp (b1V b v) K X S := by
  have key : (pk v S fun x => b1Y b x fun z => K z S) → wp (bnd (peek v) fun x => b1D b x) K X S := by
    intro h
    rw [wp_bnd]
    refine wp_pk ?_
    rcases v with x | a | ns
    · exact wp_b1Y h
    · obtain ⟨b, e, k⟩ := Look.ex h
      exact look_of e (wp_b1Y k)
    · exact h
  cases b with
  | len => exact wp_len h
  | _ => exact key h
end Mp.Ww
end
section
set_option autoImplicit false
set_option linter.all false
set_option maxRecDepth 100000
set_option maxHeartbeats 4000000
/-! Ws3: the whole text as one function that asks what is to be shown; it is sound. -/
namespace Mp.Ww
open PySem
/-! ### methods -/
def m0X (m : M0) (v : Val) (S : Store) (K : PyData → Store → Prop) : Prop := match m, v with
  | .pop, .c i => Look S[i]? fun b => match b with
    | .l xs => Opt xs.getLast? fun y => K y (S.set i (some (.l xs.dropLast)))
    | .m _ => False
  | .bitlen, .d (.int i) => K (.int (Builtin.Int.intBits i : Nat)) S
  | _, _ => False
theorem wp_m0 {m : M0} {v : Val} {K : PyData → Store → Prop} {X : XT} {S : Store} (h : m0X m v S K) : wp (m0V m v) K X S := by
  unfold m0X at h
  split at h
  · obtain ⟨b, e, k⟩ := h.ex
    unfold wp m0V
    dsimp only
    rw [e]
    cases b with
    | l xs =>
      obtain ⟨y, e, k⟩ := k.ex
      dsimp only
      rw [e]
      exact k
    | m _ => exact k.elim
  · exact h
  · exact h.elim
def m1X (m : M1) (v : Val) (y : PyData) (S : Store) (K : PyData → Store → Prop) : Prop := match m, v, y with
  | .append, .c i, y => Look S[i]? fun b => match b with
    | .l xs => xs.length < sizeLine ∧ K .none (S.set i (some (.l (xs ++ [y]))))
    | .m _ => False
  | .extend, .c i, .list ys => Look S[i]? fun b => match b with
    | .l xs => xs.length + ys.length ≤ sizeLine ∧ K .none (S.set i (some (.l (xs ++ ys))))
    | .m _ => False
  | .pop, .c i, .int j => Look S[i]? fun b => match b with
    | .l xs => (-(2 ^ 63) ≤ j ∧ j < 2 ^ 63) ∧ Opt (L2.ixN xs.length j) fun k => Opt xs[k]? fun y => K y (S.set i (some (.l (xs.eraseIdx k))))
    | .m _ => False
  | .append, _, _ => False
  | .extend, _, _ => False
  | .pop, _, _ => False
  | m, v, y => pk v S fun x => Pu (m1D m x y) fun z => K z S
theorem wp_m1 {m : M1} {v : Val} {y : PyData} {K : PyData → Store → Prop} {X : XT} {S : Store} (h : m1X m v y S K) : wp (m1V m v y) K X S := by
  have key : (pk v S fun x => Pu (m1D m x y) fun z => K z S) → wp (bnd (peek v) fun x => m1D m x y) K X S := fun h => by
    rw [wp_bnd]
    refine wp_pk ?_
    rcases v with x | a | ns
    · exact Pu.wp h
    · obtain ⟨b, e, k⟩ := Look.ex h
      exact look_of e k.wp
    · exact h
  unfold m1X at h
  split at h
  · obtain ⟨b, e, k⟩ := h.ex
    unfold wp m1V
    dsimp only
    rw [e]
    cases b with
    | l xs =>
      dsimp only
      rw [if_pos k.1]
      exact k.2
    | m _ => exact k.elim
  · obtain ⟨b, e, k⟩ := h.ex
    unfold wp m1V
    dsimp only
    rw [e]
    cases b with
    | l xs =>
      dsimp only
      rw [if_pos k.1]
      exact k.2
    | m _ => exact k.elim
  · obtain ⟨b, e, k⟩ := h.ex
    unfold wp m1V
    dsimp only
    rw [e]
    cases b with
    | l xs =>
      dsimp only
      rw [if_pos k.1]
      obtain ⟨p, e2, k2⟩ := k.2.ex
      rw [e2]
      obtain ⟨y, e3, k3⟩ := k2.ex
      dsimp only
      rw [e3]
      exact k3
    | m _ => exact k.elim
  · exact h.elim
  · exact h.elim
  · exact h.elim
  · cases m <;> first | exact key h | skip
    all_goals exact absurd rfl (by assumption)
def m2X (m : M2) (v : Val) (y z : PyData) (S : Store) (K : PyData → Store → Prop) : Prop := pk v S fun x => Pu (m2D m x y z) fun z => K z S
theorem wp_m2 {m : M2} {v : Val} {y z : PyData} {K : PyData → Store → Prop} {X : XT} {S : Store} (h : m2X m v y z S K) : wp (m2V m v y z) K X S := by
  unfold m2V
  rw [wp_bnd]
  refine wp_pk ?_
  rcases v with x | a | ns
  · exact Pu.wp h
  · obtain ⟨b, e, k⟩ := Look.ex h
    exact look_of e k.wp
  · exact h
def stX (w : Val) (k y : PyData) (S : Store) (K : Store → Prop) : Prop := match w with
  | .c c => Look S[c]? fun b => match b with
    | .l xs => (match k with
      | .int j => Opt (L2.ixN xs.length j) fun p => K (S.set c (some (.l (xs.set p y))))
      | _ => False)
    | .m kvs => (keyOk kvs k = true ∧ kvs.length < sizeLine) ∧ K (S.set c (some (.m (putD kvs k y))))
  | _ => False
theorem wp_st {w : Val} {k y : PyData} {K : Unit → Store → Prop} {X : XT} {S : Store} (h : stX w k y S (K ())) : wp (setV w k y) K X S := by
  unfold stX at h
  split at h
  · obtain ⟨b, e, q⟩ := h.ex
    unfold wp setV
    dsimp only
    rw [e]
    cases b with
    | l xs =>
      dsimp only at q ⊢
      split at q
      · obtain ⟨p, e2, k2⟩ := q.ex
        try dsimp only
        rw [e2]
        exact k2
      · exact q.elim
    | m kvs =>
      dsimp only at q ⊢
      rw [if_pos q.1]
      exact q.2
  · exact h.elim
/-! ### what is walked -/
def wkX (v : Val) (S : Store) (K : Src → Prop) : Prop := match v with
  | .d (.list xs) => K ⟨xs.map .d, none⟩
  | .d (.tuple xs) => K ⟨xs.map .d, none⟩
  | .d (.str z) => K ⟨z.cps.toList.map fun c => .d (.str ⟨#[c]⟩), none⟩
  | .c i => Look S[i]? fun b => match b with
    | .l xs => K ⟨xs.map .d, some (i, xs)⟩
    | .m _ => False
  | .scr ns => K ⟨intsV ns, none⟩
  | _ => False
theorem wp_wk {v : Val} {K : Src → Store → Prop} {X : XT} {S : Store} (h : wkX v S fun s => K s S) : wp (walkV v) K X S := by
  unfold wkX at h
  split at h
  · exact h
  · exact h
  · exact h
  · obtain ⟨b, e, q⟩ := h.ex
    unfold wp walkV
    dsimp only
    rw [e]
    cases b with
    | l xs => exact q
    | m _ => exact q.elim
  · exact h
  · exact h.elim
def enX (v : Val) (S : Store) (K : Src → Prop) : Prop := match v with
  | .d (.list xs) => K ⟨xs.zipIdx.map fun p => .d (.tuple [.int (p.2 : Nat), p.1]), none⟩
  | .c i => Look S[i]? fun b => match b with
    | .l xs => K ⟨xs.zipIdx.map fun p => .d (.tuple [.int (p.2 : Nat), p.1]), some (i, xs)⟩
    | .m _ => False
  | _ => False
theorem wp_en {v : Val} {K : Src → Store → Prop} {X : XT} {S : Store} (h : enX v S fun s => K s S) : wp (enumV v) K X S := by
  unfold enX at h
  split at h
  · exact h
  · obtain ⟨b, e, q⟩ := h.ex
    unfold enumV
    rw [wp_bnd, wp_peek_c, e, look_some]
    cases b with
    | l xs => exact q
    | m _ => exact q.elim
  · exact h.elim
def zpX (x y : PyData) (K : Src → Prop) : Prop := match x, y with
  | .list xs, .list ys => K ⟨(xs.zip ys).map fun p => .d (.tuple [p.1, p.2]), none⟩
  | .tuple xs, .tuple ys => K ⟨(xs.zip ys).map fun p => .d (.tuple [p.1, p.2]), none⟩
  | _, _ => False
theorem wp_zp {x y : PyData} {K : Src → Store → Prop} {X : XT} {S : Store} (h : zpX x y fun s => K s S) : wp (zipV x y) K X S := by
  unfold zpX at h
  split at h
  · exact h
  · exact h
  · exact h.elim
def rvX (x : PyData) (K : Src → Prop) : Prop := match x with
  | .list xs => K ⟨xs.reverse.map .d, none⟩
  | _ => False
theorem wp_rv {x : PyData} {K : Src → Store → Prop} {X : XT} {S : Store} (h : rvX x fun s => K s S) : wp (revV x) K X S := by
  unfold rvX at h
  split at h
  · exact h
  · exact h.elim
def satX : Env → List Nat → List PyData → (Env → Prop) → Prop
  | env, [], [], K => K env
  | env, i :: is, x :: xs, K => satX (env.set i (some (.d x))) is xs K
  | _, _, _, _ => False
theorem wp_sat {K : Env → Store → Prop} {X : XT} {S : Store} : ∀ {is : List Nat} {xs : List PyData} {env : Env}, satX env is xs (fun e => K e S) → wp (setAt env is xs) K X S
  | [], [], _, h => h
  | i :: is, x :: xs, _, h => wp_sat (is := is) (xs := xs) h
  | [], _ :: _, _, h => h.elim
  | _ :: _, [], _, h => h.elim
def bdX (t : Tg) (v : Val) (env : Env) (K : Env → Prop) : Prop := match t, v with
  | .nm i, v => K (env.set i (some v))
  | .tp is, .d (.tuple xs) => satX env is xs K
  | _, _ => False
theorem wp_bd {t : Tg} {v : Val} {env : Env} {K : Env → Store → Prop} {X : XT} {S : Store} (h : bdX t v env fun e => K e S) : wp (bindT t v env) K X S := by
  unfold bdX at h
  split at h
  · exact h
  · exact wp_sat h
  · exact h.elim
/-- a range's bound -/
abbrev rgB (i : Int) : Prop := -4611686018427387904 ≤ i ∧ i < 4611686018427387904
theorem rgB_ok {i : Int} (h : rgB i) : in62 i = true := decide_eq_true (by omega)
def sltX (o : Option (Option Val)) (K : Val → Prop) : Prop := match o with
  | some (some v) => K v
  | _ => False
section
variable (Γ : Nat → List Val → M Val) (gl : List PyData) (X : XT)
structure XE (e : Ex) (env : Env) (Q : Val → Store → Prop) (S : Store) : Prop where
  go : wE Γ gl e env Q X S
theorem XE_eq (e : Ex) (env : Env) (Q : Val → Store → Prop) (S : Store) : XE Γ gl X e env Q S = wE Γ gl e env Q X S := propext ⟨fun h => h.go, fun h => ⟨h⟩⟩
structure XD (e : Exs) (env : Env) (Q : List PyData → Store → Prop) (S : Store) : Prop where
  go : wD Γ gl e env Q X S
theorem XD_eq (e : Exs) (env : Env) (Q : List PyData → Store → Prop) (S : Store) : XD Γ gl X e env Q S = wD Γ gl e env Q X S := propext ⟨fun h => h.go, fun h => ⟨h⟩⟩
structure XV (e : Exs) (env : Env) (Q : List Val → Store → Prop) (S : Store) : Prop where
  go : wV Γ gl e env Q X S
theorem XV_eq (e : Exs) (env : Env) (Q : List Val → Store → Prop) (S : Store) : XV Γ gl X e env Q S = wV Γ gl e env Q X S := propext ⟨fun h => h.go, fun h => ⟨h⟩⟩
structure XA (e : Exs) (env : Env) (Q : Bool → Store → Prop) (S : Store) : Prop where
  go : wA Γ gl e env Q X S
theorem XA_eq (e : Exs) (env : Env) (Q : Bool → Store → Prop) (S : Store) : XA Γ gl X e env Q S = wA Γ gl e env Q X S := propext ⟨fun h => h.go, fun h => ⟨h⟩⟩
structure XO (e : Exs) (env : Env) (Q : Bool → Store → Prop) (S : Store) : Prop where
  go : wO Γ gl e env Q X S
theorem XO_eq (e : Exs) (env : Env) (Q : Bool → Store → Prop) (S : Store) : XO Γ gl X e env Q S = wO Γ gl e env Q X S := propext ⟨fun h => h.go, fun h => ⟨h⟩⟩
structure XI (e : It) (env : Env) (Q : Src → Store → Prop) (S : Store) : Prop where
  go : wI Γ gl e env Q X S
theorem XI_eq (e : It) (env : Env) (Q : Src → Store → Prop) (S : Store) : XI Γ gl X e env Q S = wI Γ gl e env Q X S := propext ⟨fun h => h.go, fun h => ⟨h⟩⟩
def XEs : Ex → Env → (Val → Store → Prop) → Store → Prop
  | .var i, env, Q, S => sltX env[i]? fun v => Q v S
  | .con x, _, Q, S => Q (.d x) S
  | .glb k, _, Q, S => Opt gl[k]? fun x => Q (.d x) S
  | .tup es, env, Q, S => XD Γ gl X es env (fun xs S => xs.length ≤ sizeLine ∧ Q (.d (.tuple xs)) S) S
  | .lst es, env, Q, S => XD Γ gl X es env (fun xs S => xs.length ≤ sizeLine ∧ Q (.d (.list xs)) S) S
  | .bin o a b, env, Q, S => XE Γ gl X a env (fun v S => XE Γ gl X b env (fun u S => pk v S fun x => pk u S fun y => bnX o x y fun z => Q (.d z) S) S) S
  | .cmp o a b, env, Q, S => XE Γ gl X a env (fun v S => XE Γ gl X b env (fun u S => pk v S fun x => pk u S fun y => cmX o x y fun z => Q (.d (.bool z)) S) S) S
  | .chn o o' a b c, env, Q, S => XE Γ gl X a env (fun v S => XE Γ gl X b env (fun u S => pk v S fun x => pk u S fun y => cmX o x y fun r =>
      Bra r (XE Γ gl X c env (fun w S => pk u S fun y' => pk w S fun z => cmX o' y' z fun t => Q (.d (.bool t)) S) S) (Q (.d (.bool false)) S)) S) S
  | .and es, env, Q, S => XA Γ gl X es env (fun b S => Q (.d (.bool b)) S) S
  | .or es, env, Q, S => XO Γ gl X es env (fun b S => Q (.d (.bool b)) S) S
  | .not a, env, Q, S => XE Γ gl X a env (fun v S => tb v fun b => Q (.d (.bool (!b))) S) S
  | .ite t a b, env, Q, S => XE Γ gl X t env (fun v S => tb v fun c => Bra c (XE Γ gl X a env Q S) (XE Γ gl X b env Q S)) S
  | .ix a b, env, Q, S => XE Γ gl X a env (fun v S => XE Γ gl X b env (fun u S => pk u S fun i => ixX v i S fun z => Q (.d z) S) S) S
  | .slf a b, env, Q, S => XE Γ gl X a env (fun v S => XE Γ gl X b env (fun u S => ti u fun i => slX v (some i) none S fun z => Q (.d z) S) S) S
  | .slt a b, env, Q, S => XE Γ gl X a env (fun v S => XE Γ gl X b env (fun u S => ti u fun i => slX v none (some i) S fun z => Q (.d z) S) S) S
  | .slb a b c, env, Q, S => XE Γ gl X a env (fun v S => XE Γ gl X b env (fun u S => ti u fun i => XE Γ gl X c env (fun w S => ti w fun j => slX v (some i) (some j) S fun z => Q (.d z) S) S) S) S
  | .rev a, env, Q, S => XE Γ gl X a env (fun v S => pk v S fun x => lsX x fun xs => Q (.d (.list xs.reverse)) S) S
  | .call f es, env, Q, S => XV Γ gl X es env (fun vs S => Wp (Γ f vs) Q X S) S
  | .callk f es perm, env, Q, S => XV Γ gl X es env (fun vs S => Opt (permL vs perm) fun us => Wp (Γ f us) Q X S) S
  | .b1 b a, env, Q, S => XE Γ gl X a env (fun v S => b1X b v S fun z => Q (.d z) S) S
  | .b2 b a c, env, Q, S => XE Γ gl X a env (fun v S => XE Γ gl X c env (fun u S => pk v S fun x => ow u S fun y S => Pu (b2D b x y) fun z => Q (.d z) S) S) S
  | .isi a t, env, Q, S => XE Γ gl X a env (fun v S => pk v S fun x => Q (.d (.bool (tyD t x))) S) S
  | .m0 m o, env, Q, S => XE Γ gl X o env (fun v S => m0X m v S fun z S => Q (.d z) S) S
  | .m1 m o a, env, Q, S => XE Γ gl X o env (fun v S => pk v S fun x => tyD (m1Y m) x = true ∧ XE Γ gl X a env (fun u S => ow u S fun y S => m1X m v y S fun z S => Q (.d z) S) S) S
  | .m2 m o a b, env, Q, S => XE Γ gl X o env (fun v S => pk v S fun x => tyD (m2Y m) x = true ∧ XE Γ gl X a env (fun u S => ow u S fun y S => XE Γ gl X b env (fun w S => ow w S fun t S => m2X m v y t S fun z S => Q (.d z) S) S) S) S
  | .lc elt t it cond ws, env, Q, S => XI Γ gl X it env (fun s S => Wp (lcL s.src (lcB Γ gl elt t cond ws env) s.its []) (fun ys S => ys.length ≤ sizeLine ∧ Q (.d (.list ys)) S) X S) S
  | .dd es, env, Q, S => XD Γ gl X es env (fun xs S => Wp (twoD [] xs) (fun kvs S => Q (.d (.dict kvs)) S) X S) S
  | .mk a, env, Q, S => XE Γ gl X a env (fun v S => mkX v fun b => Q (.c S.length) (S ++ [some b])) S
  | e, env, Q, S => Wp (eval Γ gl e env) Q X S
def XDs : Exs → Env → (List PyData → Store → Prop) → Store → Prop
  | .nil, _, Q, S => Q [] S
  | .cons e es, env, Q, S => XE Γ gl X e env (fun v S => ow v S fun x S => XD Γ gl X es env (fun xs S => Q (x :: xs) S) S) S
def XVs : Exs → Env → (List Val → Store → Prop) → Store → Prop
  | .nil, _, Q, S => Q [] S
  | .cons e es, env, Q, S => XE Γ gl X e env (fun v S => XV Γ gl X es env (fun vs S => Q (v :: vs) S) S) S
def XAs : Exs → Env → (Bool → Store → Prop) → Store → Prop
  | .nil, _, Q, S => Q true S
  | .cons e es, env, Q, S => XE Γ gl X e env (fun v S => tb v fun b => Bra b (XA Γ gl X es env Q S) (Q false S)) S
def XOs : Exs → Env → (Bool → Store → Prop) → Store → Prop
  | .nil, _, Q, S => Q false S
  | .cons e es, env, Q, S => XE Γ gl X e env (fun v S => tb v fun b => Bra b (Q true S) (XO Γ gl X es env Q S)) S
def XIs : It → Env → (Src → Store → Prop) → Store → Prop
  | .val e, env, Q, S => XE Γ gl X e env (fun v S => wkX v S fun s => Q s S) S
  | .rg1 a, env, Q, S => XE Γ gl X a env (fun v S => ti v fun j => rgB j ∧ Q ⟨rng 0 j.toNat, none⟩ S) S
  | .rg2 a b, env, Q, S => XE Γ gl X a env (fun v S => XE Γ gl X b env (fun u S => ti v fun i => ti u fun j => (rgB i ∧ rgB j) ∧ Q ⟨rng i (j - i).toNat, none⟩ S) S) S
  | .rg3 a b c, env, Q, S => XE Γ gl X a env (fun v S => XE Γ gl X b env (fun u S => XE Γ gl X c env (fun w S => ti v fun i => ti u fun j => ti w fun k => (rgB i ∧ rgB j ∧ k = -1) ∧ Q ⟨rngC i (-1) (i - j).toNat, none⟩ S) S) S) S
  | .en e, env, Q, S => XE Γ gl X e env (fun v S => enX v S fun s => Q s S) S
  | .zp a b, env, Q, S => XE Γ gl X a env (fun v S => XE Γ gl X b env (fun u S => ow v S fun x S => ow u S fun y S => zpX x y fun s => Q s S) S) S
  | .rv e, env, Q, S => XE Γ gl X e env (fun v S => ow v S fun x S => rvX x fun s => Q s S) S
  | e, env, Q, S => Wp (evalI Γ gl e env) Q X S
end
end Mp.Ww
end
section
set_option autoImplicit false
set_option linter.all false
set_option maxRecDepth 100000
set_option maxHeartbeats 4000000
/-! Ws4: soundness of the walk; statements. -/
namespace Mp.Ww
open PySem
section
variable {Γ : Nat → List Val → M Val} {gl : List PyData} {X : XT}
theorem wp_mono1 {α : Type} {m : M α} {Q1 Q : α → Store → Prop} {S : Store} (hq : ∀ a S', Q1 a S' → Q a S') (h : wp m Q1 X S) : wp m Q X S := wp_post h hq
theorem pk_mono {v : Val} {S : Store} {K K' : PyData → Prop} (h : ∀ x, K x → K' x) (q : pk v S K) : pk v S K' := by
  rcases v with x | a | ns
  · exact h x q
  · obtain ⟨b, e, k⟩ := Look.ex q
    exact look_of e (h _ k)
  · exact q
theorem ow_mono {v : Val} {S : Store} {K K' : PyData → Store → Prop} (h : ∀ x S, K x S → K' x S) (q : ow v S K) : ow v S K' := by
  rcases v with x | a | ns
  · exact h x S q
  · obtain ⟨b, e, k⟩ := Look.ex q
    exact look_of e (h _ _ k)
  · exact q
theorem tb_mono {v : Val} {K K' : Bool → Prop} (h : ∀ x, K x → K' x) (q : tb v K) : tb v K' := by
  rcases v with (_|_|_|_|_|_|_)|_|_ <;> first | exact h _ q | exact q
theorem ti_mono {v : Val} {K K' : Int → Prop} (h : ∀ x, K x → K' x) (q : ti v K) : ti v K' := by
  rcases v with (_|_|_|_|_|_|_)|_|_ <;> first | exact h _ q | exact q
theorem PuB.mono {m : M Bool} {K K' : Bool → Prop} (h : ∀ x, K x → K' x) (q : PuB m K) : PuB m K' := by
  rw [PuB_eq] at q ⊢
  intro S
  obtain ⟨x, e, k⟩ := q S
  exact ⟨x, e, h x k⟩
theorem cm_mono {o : CmpK} {x y : PyData} {K K' : Bool → Prop} (h : ∀ x, K x → K' x) (q : cmX o x y K) : cmX o x y K' := by
  rw [cmX_eq] at *
  unfold cmX0 at *
  split at q <;> first | exact h _ q | exact PuB.mono h q | exact PuB.mono (fun b => h _) q
theorem bra_mono {b : Bool} {p q p' q' : Prop} (k : Bra b p q) (h : p → p') (h' : q → q') : bra b p' q' := by
  rw [Bra_eq] at k
  cases b with
  | true => exact h k
  | false => exact h' k
theorem xe (e : Ex) {env : Env} {Q : Val → Store → Prop} {S : Store} (h : XE Γ gl X e env Q S) : wE Γ gl e env Q X S := by rw [XE_eq] at h; exact h
theorem xd (e : Exs) {env : Env} {Q : List PyData → Store → Prop} {S : Store} (h : XD Γ gl X e env Q S) : wD Γ gl e env Q X S := by rw [XD_eq] at h; exact h
theorem xv (e : Exs) {env : Env} {Q : List Val → Store → Prop} {S : Store} (h : XV Γ gl X e env Q S) : wV Γ gl e env Q X S := by rw [XV_eq] at h; exact h
theorem xa (e : Exs) {env : Env} {Q : Bool → Store → Prop} {S : Store} (h : XA Γ gl X e env Q S) : wA Γ gl e env Q X S := by rw [XA_eq] at h; exact h
theorem xo (e : Exs) {env : Env} {Q : Bool → Store → Prop} {S : Store} (h : XO Γ gl X e env Q S) : wO Γ gl e env Q X S := by rw [XO_eq] at h; exact h
theorem xi (e : It) {env : Env} {Q : Src → Store → Prop} {S : Store} (h : XI Γ gl X e env Q S) : wI Γ gl e env Q X S := by rw [XI_eq] at h; exact h
theorem XE.st : ∀ (e : Ex) {env : Env} {Q : Val → Store → Prop} {S : Store}, XEs Γ gl X e env Q S → XE Γ gl X e env Q S
  | .var i, env, Q, S, h => by
    rw [XE_eq]
    rw [e_var]
    rw [XEs] at h
    exact h
  | .con x, env, Q, S, h => by
    rw [XE_eq]
    rw [e_con]
    rw [XEs] at h
    exact h
  | .glb k, env, Q, S, h => by
    rw [XE_eq]
    rw [e_glb]
    rw [XEs] at h
    obtain ⟨b, e, q⟩ := h.ex
    rw [e]
    exact q
  | .tup es, env, Q, S, h => by
    rw [XE_eq]
    rw [e_tup]
    rw [XEs] at h
    exact wp_mono1 (fun xs S q => ⟨decide_eq_true q.1, q.2⟩) (xd es h)
  | .lst es, env, Q, S, h => by
    rw [XE_eq]
    rw [e_lst]
    rw [XEs] at h
    exact wp_mono1 (fun xs S q => ⟨decide_eq_true q.1, q.2⟩) (xd es h)
  | .bin o a b, env, Q, S, h => by
    rw [XE_eq]
    rw [e_bin]
    rw [XEs] at h
    exact wp_mono1 (fun v S q => wp_mono1 (fun u S q => wp_pk (by
      refine pk_mono (fun x q => ?_) q
      exact wp_pk (pk_mono (fun y q => wp_bn q) q))) (xe b q)) (xe a h)
  | .cmp o a b, env, Q, S, h => by
    rw [XE_eq]
    rw [e_cmp]
    rw [XEs] at h
    exact wp_mono1 (fun v S q => wp_mono1 (fun u S q => wp_pk (by
      refine pk_mono (fun x q => ?_) q
      exact wp_pk (pk_mono (fun y q => wp_cm q) q))) (xe b q)) (xe a h)
  | .chn o o' a b c, env, Q, S, h => by
    rw [XE_eq]
    rw [e_chn]
    rw [XEs] at h
    exact wp_mono1 (fun v S q => wp_mono1 (fun u S q => wp_pk (by
      refine pk_mono (fun x q => ?_) q
      refine wp_pk (pk_mono (fun y q => wp_cm ?_) q)
      refine cm_mono (fun r q => ?_) q
      exact bra_mono q (fun q => wp_mono1 (fun w S q => wp_pk (pk_mono (fun y' q => wp_pk (pk_mono (fun z q => wp_cm q) q)) q)) (xe c q)) fun q => q)) (xe b q)) (xe a h)
  | .and es, env, Q, S, h => by
    rw [XE_eq]
    rw [e_and]
    rw [XEs] at h
    exact xa es h
  | .or es, env, Q, S, h => by
    rw [XE_eq]
    rw [e_or]
    rw [XEs] at h
    exact xo es h
  | .not a, env, Q, S, h => by
    rw [XE_eq]
    rw [e_not]
    rw [XEs] at h
    exact wp_mono1 (fun v S q => wp_tb q) (xe a h)
  | .ite t a b, env, Q, S, h => by
    rw [XE_eq]
    rw [e_ite]
    rw [XEs] at h
    exact wp_mono1 (fun v S q => wp_tb (tb_mono (fun c q => bra_mono q (fun q => xe a q) fun q => xe b q) q)) (xe t h)
  | .ix a b, env, Q, S, h => by
    rw [XE_eq]
    rw [e_ix]
    rw [XEs] at h
    exact wp_mono1 (fun v S q => wp_mono1 (fun u S q => wp_pk (pk_mono (fun i q => wp_ix q) q)) (xe b q)) (xe a h)
  | .slf a b, env, Q, S, h => by
    rw [XE_eq]
    rw [e_slf]
    rw [XEs] at h
    exact wp_mono1 (fun v S q => wp_mono1 (fun u S q => wp_ti (ti_mono (fun i q => wp_sl q) q)) (xe b q)) (xe a h)
  | .slt a b, env, Q, S, h => by
    rw [XE_eq]
    rw [e_slt]
    rw [XEs] at h
    exact wp_mono1 (fun v S q => wp_mono1 (fun u S q => wp_ti (ti_mono (fun i q => wp_sl q) q)) (xe b q)) (xe a h)
  | .slb a b c, env, Q, S, h => by
    rw [XE_eq]
    rw [e_slb]
    rw [XEs] at h
    exact wp_mono1 (fun v S q => wp_mono1 (fun u S q => wp_ti (ti_mono (fun i q => wp_mono1 (fun w S q => wp_ti (ti_mono (fun j q => wp_sl q) q)) (xe c q)) q)) (xe b q)) (xe a h)
  | .rev a, env, Q, S, h => by
    rw [XE_eq]
    rw [e_rev]
    rw [XEs] at h
    exact wp_mono1 (fun v S q => wp_pk q) (xe a h)
  | .call f es, env, Q, S, h => by
    rw [XE_eq]
    rw [e_call]
    rw [XEs] at h
    exact wp_mono1 (fun vs S q => by rw [Wp_eq] at q; exact q) (xv es h)
  | .callk f es perm, env, Q, S, h => by
    rw [XE_eq]
    rw [e_callk]
    rw [XEs] at h
    exact wp_mono1 (fun vs S q => by
      obtain ⟨b, e, q⟩ := q.ex
      rw [e]
      rw [Wp_eq] at q
      exact q) (xv es h)
  | .b1 b a, env, Q, S, h => by
    rw [XE_eq]
    rw [e_b1]
    rw [XEs] at h
    exact wp_mono1 (fun v S q => wp_b1 q) (xe a h)
  | .b2 b a c, env, Q, S, h => by
    rw [XE_eq]
    rw [e_b2]
    rw [XEs] at h
    exact wp_mono1 (fun v S q => wp_mono1 (fun u S q => wp_pk (pk_mono (fun x q => wp_ow (ow_mono (fun y S q => q.wp) q)) q)) (xe c q)) (xe a h)
  | .isi a t, env, Q, S, h => by
    rw [XE_eq]
    rw [e_isi]
    rw [XEs] at h
    exact wp_mono1 (fun v S q => wp_pk q) (xe a h)
  | .m0 m o, env, Q, S, h => by
    rw [XE_eq]
    rw [e_m0]
    rw [XEs] at h
    exact wp_mono1 (fun v S q => wp_m0 q) (xe o h)
  | .m1 m o a, env, Q, S, h => by
    rw [XE_eq]
    rw [e_m1]
    rw [XEs] at h
    exact wp_mono1 (fun v S q => wp_pk (pk_mono (fun x q => ⟨q.1, wp_mono1 (fun u S q => wp_ow (ow_mono (fun y S q => wp_m1 q) q)) (xe a q.2)⟩) q)) (xe o h)
  | .m2 m o a b, env, Q, S, h => by
    rw [XE_eq]
    rw [e_m2]
    rw [XEs] at h
    exact wp_mono1 (fun v S q => wp_pk (pk_mono (fun x q => ⟨q.1, wp_mono1 (fun u S q => wp_ow (ow_mono (fun y S q => wp_mono1 (fun w S q => wp_ow (ow_mono (fun t S q => wp_m2 q) q)) (xe b q)) q)) (xe a q.2)⟩) q)) (xe o h)
  | .lc elt t it cond ws, env, Q, S, h => by
    rw [XE_eq]
    rw [e_lc]
    rw [XEs] at h
    refine wp_mono1 (fun s S q => ?_) (xi it h)
    rw [Wp_eq] at q
    exact wp_mono1 (fun ys S q => ⟨decide_eq_true q.1, q.2⟩) q
  | .dd es, env, Q, S, h => by
    rw [XE_eq]
    rw [e_dd]
    rw [XEs] at h
    exact wp_mono1 (fun vs S q => by rw [Wp_eq] at q; exact q) (xd es h)
  | .mk a, env, Q, S, h => by
    rw [XE_eq]
    rw [e_mk]
    rw [XEs] at h
    exact xe a h
  | .lc2 .., env, Q, S, h => by
    rw [XE_eq]
    rw [XEs, Wp_eq] at h
    · exact h
    all_goals (intros; contradiction)
  | .dc .., env, Q, S, h => by
    rw [XE_eq]
    rw [XEs, Wp_eq] at h
    · exact h
    all_goals (intros; contradiction)
theorem XD.st : ∀ (es : Exs) {env : Env} {Q : List PyData → Store → Prop} {S : Store}, XDs Γ gl X es env Q S → XD Γ gl X es env Q S
  | .nil, env, Q, S, h => by
    rw [XD_eq]
    rw [d_nil]
    rw [XDs] at h
    exact h
  | .cons e es, env, Q, S, h => by
    rw [XD_eq]
    rw [d_cons]
    rw [XDs] at h
    exact wp_mono1 (fun v S q => wp_ow (ow_mono (fun x S q => xd es q) q)) (xe e h)
theorem XV.st : ∀ (es : Exs) {env : Env} {Q : List Val → Store → Prop} {S : Store}, XVs Γ gl X es env Q S → XV Γ gl X es env Q S
  | .nil, env, Q, S, h => by
    rw [XV_eq]
    rw [v_nil]
    rw [XVs] at h
    exact h
  | .cons e es, env, Q, S, h => by
    rw [XV_eq]
    rw [v_cons]
    rw [XVs] at h
    exact wp_mono1 (fun v S q => xv es q) (xe e h)
theorem XA.st : ∀ (es : Exs) {env : Env} {Q : Bool → Store → Prop} {S : Store}, XAs Γ gl X es env Q S → XA Γ gl X es env Q S
  | .nil, env, Q, S, h => by
    rw [XA_eq]
    rw [a_nil]
    rw [XAs] at h
    exact h
  | .cons e es, env, Q, S, h => by
    rw [XA_eq]
    rw [a_cons]
    rw [XAs] at h
    exact wp_mono1 (fun v S q => wp_tb (tb_mono (fun c q => bra_mono q (fun q => xa es q) fun q => q) q)) (xe e h)
theorem XO.st : ∀ (es : Exs) {env : Env} {Q : Bool → Store → Prop} {S : Store}, XOs Γ gl X es env Q S → XO Γ gl X es env Q S
  | .nil, env, Q, S, h => by
    rw [XO_eq]
    rw [o_nil]
    rw [XOs] at h
    exact h
  | .cons e es, env, Q, S, h => by
    rw [XO_eq]
    rw [o_cons]
    rw [XOs] at h
    exact wp_mono1 (fun v S q => wp_tb (tb_mono (fun c q => bra_mono q (fun q => q) fun q => xo es q) q)) (xe e h)
theorem XI.st : ∀ (e : It) {env : Env} {Q : Src → Store → Prop} {S : Store}, XIs Γ gl X e env Q S → XI Γ gl X e env Q S
  | .val e, env, Q, S, h => by
    rw [XI_eq]
    rw [i_val]
    rw [XIs] at h
    exact wp_mono1 (fun v S q => wp_wk q) (xe e h)
  | .rg1 a, env, Q, S, h => by
    rw [XI_eq]
    rw [i_rg1]
    rw [XIs] at h
    exact wp_mono1 (fun v S q => wp_ti (ti_mono (fun i q => ⟨rgB_ok q.1, q.2⟩) q)) (xe a h)
  | .rg2 a b, env, Q, S, h => by
    rw [XI_eq]
    rw [i_rg2]
    rw [XIs] at h
    exact wp_mono1 (fun v S q => wp_mono1 (fun u S q => wp_ti (ti_mono (fun i q => wp_ti (ti_mono (fun j q => ⟨by rw [rgB_ok q.1.1, rgB_ok q.1.2]; rfl, q.2⟩) q)) q)) (xe b q)) (xe a h)
  | .rg3 a b c, env, Q, S, h => by
    rw [XI_eq]
    rw [i_rg3]
    rw [XIs] at h
    exact wp_mono1 (fun v S q => wp_mono1 (fun u S q => wp_mono1 (fun w S q => wp_ti (ti_mono (fun i q => wp_ti (ti_mono (fun j q => wp_ti (ti_mono (fun k q => ⟨by rw [rgB_ok q.1.1, rgB_ok q.1.2.1, decide_eq_true q.1.2.2]; rfl, q.2⟩) q)) q)) q)) (xe c q)) (xe b q)) (xe a h)
  | .en e, env, Q, S, h => by
    rw [XI_eq]
    rw [i_en]
    rw [XIs] at h
    exact wp_mono1 (fun v S q => wp_en q) (xe e h)
  | .zp a b, env, Q, S, h => by
    rw [XI_eq]
    rw [i_zp]
    rw [XIs] at h
    exact wp_mono1 (fun v S q => wp_mono1 (fun u S q => wp_ow (ow_mono (fun x S q => wp_ow (ow_mono (fun y S q => wp_zp q) q)) q)) (xe b q)) (xe a h)
  | .rv e, env, Q, S, h => by
    rw [XI_eq]
    rw [i_rv]
    rw [XIs] at h
    exact wp_mono1 (fun v S q => wp_ow (ow_mono (fun x S q => wp_rv q) q)) (xe e h)
  | .itm e, env, Q, S, h => by
    rw [XI_eq]
    rw [XIs, Wp_eq] at h
    · exact h
    all_goals (intros; contradiction)
  | .vls e, env, Q, S, h => by
    rw [XI_eq]
    rw [XIs, Wp_eq] at h
    · exact h
    all_goals (intros; contradiction)
end
end Mp.Ww
end
section
set_option autoImplicit false
set_option linter.all false
set_option maxRecDepth 100000
set_option maxHeartbeats 4000000
/-! Ws5: statements, a def's call, loops. -/
namespace Mp.Ww
open PySem
section
variable (Γ : Nat → List Val → M Val) (gl : List PyData) (X : XT)
/-- what comes behind -/
def thX (f : Env → Store → Prop) (Q : Fl → Store → Prop) (fl : Fl) (S : Store) : Prop := match fl with
  | .nx e => f e S
  | fl => Q fl S
structure XS (s : Sm) (env : Env) (Q : Fl → Store → Prop) (S : Store) : Prop where
  go : wS Γ gl s env Q X S
theorem XS_eq (s : Sm) (env : Env) (Q : Fl → Store → Prop) (S : Store) : XS Γ gl X s env Q S = wS Γ gl s env Q X S := propext ⟨fun h => h.go, fun h => ⟨h⟩⟩
structure XSs (s : Sms) (env : Env) (Q : Fl → Store → Prop) (S : Store) : Prop where
  go : wSs Γ gl s env Q X S
theorem XSs_eq (s : Sms) (env : Env) (Q : Fl → Store → Prop) (S : Store) : XSs Γ gl X s env Q S = wSs Γ gl s env Q X S := propext ⟨fun h => h.go, fun h => ⟨h⟩⟩
def XSt : Sm → Env → (Fl → Store → Prop) → Store → Prop
  | .asg t e, env, Q, S => XE Γ gl X e env (fun v S => bdX t v env fun e1 => Q (.nx e1) S) S
  | .par is es, env, Q, S => XV Γ gl X es env (fun vs S => (vs.length = is.length ∧ vs.length ≤ 1000) ∧ Q (.nx (setVs env is vs)) S) S
  | .setI o i e, env, Q, S => XE Γ gl X e env (fun v S => ow v S fun y S => XE Γ gl X o env (fun w S => XE Γ gl X i env (fun u S => ow u S fun k S => stX w k y S fun S => Q (.nx env) S) S) S) S
  | .aug i o e, env, Q, S => sltX env[i]? fun v => XE Γ gl X e env (fun u S => ti v fun x => ti u fun y => bnX o (.int x) (.int y) fun z => Q (.nx (env.set i (some (.d z)))) S) S
  | .ex e, env, Q, S => XE Γ gl X e env (fun _ S => Q (.nx env) S) S
  | .ifs c a b, env, Q, S => XE Γ gl X c env (fun v S => tb v fun t => Bra t (XSs Γ gl X a env Q S) (XSs Γ gl X b env Q S)) S
  | .whl c b, env, Q, S => Wp (whlL (whC Γ gl c) (fun e => execs Γ gl b e) fuel env) Q X S
  | .for_ t it b, env, Q, S => XI Γ gl X it env (fun s S => Wp (forL s.src (foB Γ gl t b) s.its env) Q X S) S
  | .rtn e, env, Q, S => XE Γ gl X e env (fun v S => Q (.rt v) S) S
  | .brk, env, Q, S => Q (.br env) S
  | .cnt, env, Q, S => Q (.ct env) S
  | .pass, env, Q, S => Q (.nx env) S
  | .rse k e, env, Q, S => XE Γ gl X e env (fun v S => ow v S fun x S => X k x S) S
def XSst : Sms → Env → (Fl → Store → Prop) → Store → Prop
  | .nil, env, Q, S => Q (.nx env) S
  | .cons s ss, env, Q, S => XS Γ gl X s env (fun fl S => thX (fun e S => XSs Γ gl X ss e Q S) Q fl S) S
end
section
variable {Γ : Nat → List Val → M Val} {gl : List PyData} {X : XT}
theorem sat_mono {K K' : Env → Prop} (h : ∀ e, K e → K' e) : ∀ {is : List Nat} {xs : List PyData} {env : Env}, satX env is xs K → satX env is xs K'
  | [], [], _, q => h _ q
  | i :: is, x :: xs, _, q => sat_mono h (is := is) (xs := xs) q
  | [], _ :: _, _, q => q
  | _ :: _, [], _, q => q
theorem slt_ok {o : Option (Option Val)} {K : Val → Prop} (h : sltX o K) : slot o K := h
theorem st_mono {w : Val} {k y : PyData} {S : Store} {K K' : Store → Prop} (h : ∀ S, K S → K' S) (q : stX w k y S K) : stX w k y S K' := by
  unfold stX at *
  split at q
  · obtain ⟨b, e, q⟩ := q.ex
    refine look_of e ?_
    cases b with
    | l xs =>
      dsimp only at q ⊢
      split at q
      · obtain ⟨p, e, q⟩ := q.ex
        exact .of e (h _ q)
      · exact q
    | m kvs => exact ⟨q.1, h _ q.2⟩
  · exact q
theorem PuM {m : M PyData} {K K' : PyData → Prop} (h : ∀ x, K x → K' x) (q : Pu m K) : Pu m K' := by
  rw [Pu_eq] at q ⊢
  intro S
  obtain ⟨x, e, k⟩ := q S
  exact ⟨x, e, h x k⟩
theorem xs (s : Sm) {env : Env} {Q : Fl → Store → Prop} {S : Store} (h : XS Γ gl X s env Q S) : wS Γ gl s env Q X S := by rw [XS_eq] at h; exact h
theorem xss (s : Sms) {env : Env} {Q : Fl → Store → Prop} {S : Store} (h : XSs Γ gl X s env Q S) : wSs Γ gl s env Q X S := by rw [XSs_eq] at h; exact h
theorem XS.st : ∀ (s : Sm) {env : Env} {Q : Fl → Store → Prop} {S : Store}, XSt Γ gl X s env Q S → XS Γ gl X s env Q S
  | .asg t e, env, Q, S, h => by
    rw [XS_eq]
    rw [s_asg]
    rw [XSt] at h
    exact wp_mono1 (fun v S q => wp_bd q) (xe e h)
  | .par is es, env, Q, S, h => by
    rw [XS_eq]
    rw [s_par]
    rw [XSt] at h
    exact wp_mono1 (fun v S q => ⟨decide_eq_true q.1, q.2⟩) (xv es h)
  | .setI o i e, env, Q, S, h => by
    rw [XS_eq]
    rw [s_setI]
    rw [XSt] at h
    exact wp_mono1 (fun v S q => wp_ow (ow_mono (fun y S q => wp_mono1 (fun w S q => wp_mono1 (fun u S q => wp_ow (ow_mono (fun k S q => wp_st q) q)) (xe i q)) (xe o q)) q)) (xe e h)
  | .aug i o e, env, Q, S, h => by
    rw [XS_eq]
    rw [s_aug]
    rw [XSt] at h
    unfold sltX at h
    unfold slot
    generalize env[i]? = o1 at h ⊢
    rcases o1 with _ | _ | v
    · exact h
    · exact h
    · exact wp_mono1 (fun u S q => wp_ti (ti_mono (fun x q => wp_ti (ti_mono (fun y q => wp_bn q) q)) q)) (xe e h)
  | .ex e, env, Q, S, h => by
    rw [XS_eq]
    rw [s_ex]
    rw [XSt] at h
    exact xe e h
  | .ifs c a b, env, Q, S, h => by
    rw [XS_eq]
    rw [s_ifs]
    rw [XSt] at h
    exact wp_mono1 (fun v S q => wp_tb (tb_mono (fun c q => bra_mono q (fun q => xss a q) fun q => xss b q) q)) (xe c h)
  | .whl c b, env, Q, S, h => by
    rw [XS_eq]
    rw [s_whl]
    rw [XSt, Wp_eq] at h
    exact h
  | .for_ t it b, env, Q, S, h => by
    rw [XS_eq]
    rw [s_for]
    rw [XSt] at h
    exact wp_mono1 (fun s S q => by rw [Wp_eq] at q; exact q) (xi it h)
  | .rtn e, env, Q, S, h => by
    rw [XS_eq]
    rw [s_rtn]
    rw [XSt] at h
    exact xe e h
  | .brk, env, Q, S, h => by
    rw [XS_eq]
    rw [s_brk]
    rw [XSt] at h
    exact h
  | .cnt, env, Q, S, h => by
    rw [XS_eq]
    rw [s_cnt]
    rw [XSt] at h
    exact h
  | .pass, env, Q, S, h => by
    rw [XS_eq]
    rw [s_pass]
    rw [XSt] at h
    exact h
  | .rse k e, env, Q, S, h => by
    rw [XS_eq]
    rw [s_rse]
    rw [XSt] at h
    exact wp_mono1 (fun v S q => wp_ow q) (xe e h)
theorem XSs.st : ∀ (ss : Sms) {env : Env} {Q : Fl → Store → Prop} {S : Store}, XSst Γ gl X ss env Q S → XSs Γ gl X ss env Q S
  | .nil, env, Q, S, h => by
    rw [XSs_eq]
    rw [ss_nil]
    rw [XSst] at h
    exact h
  | .cons s ss, env, Q, S, h => by
    rw [XSs_eq]
    rw [ss_cons]
    rw [XSst] at h
    refine wp_mono1 (fun fl S q => ?_) (xs s h)
    cases fl with
    | nx e => exact xss ss q
    | _ => exact q
/-! ### a def's call -/
def endX (S : Store) (raw : Bool) (Q : Val → Store → Prop) : Fl → Store → Prop
  | .rt v, T => (match raw with
    | true => Q v T
    | false => ow v T fun x T' => Q (.d x) (T'.take S.length))
  | .nx _, T => (match raw with
    | true => Q (.d .none) T
    | false => Q (.d .none) (T.take S.length))
  | _, _ => False
theorem Wp.run {fn : Fn} {vs : List Val} {S : Store} {Q : Val → Store → Prop} (hl : vs.length = fn.np) (h : XSs Γ gl nx fn.body (vs.map some ++ List.replicate (fn.ns - fn.np) none) (endX S fn.raw Q) S) : Wp (fn.run Γ gl vs) Q nx S := by
  rw [Wp_eq]
  refine run_wp hl ?_
  refine wp_mono1 (fun fl T q => ?_) (xss _ h)
  cases fl with
  | rt v =>
    unfold endX at q
    unfold endQ
    cases e : fn.raw with
    | true => rw [e] at q; exact q
    | false => rw [e] at q; exact wp_ow q
  | nx v =>
    unfold endX at q
    unfold endQ
    cases e : fn.raw with
    | true => rw [e] at q; exact q
    | false => rw [e] at q; exact q
  | br v => exact q.elim
  | ct v => exact q.elim
/-- what comes is known -/
theorem Wp.eq {α : Type} {m : M α} {a : α} {S S' : Store} (h : Wp m (fun b T => b = a ∧ T = S') nx S) : m S = .ok a S' := by
  rw [Wp_eq] at h
  exact eq_of_wp h
theorem Wp.ok {α : Type} {m : M α} {Q : α → Store → Prop} {S : Store} (h : Wp m Q nx S) : ∃ a S', m S = .ok a S' ∧ Q a S' := by
  rw [Wp_eq] at h
  exact ok_wp h
theorem Wp.of {α : Type} {m : M α} {a : α} {Q : α → Store → Prop} {S S' : Store} (e : m S = .ok a S') (h : Q a S') : Wp m Q X S := by
  rw [Wp_eq, wp_ok e]
  exact h
theorem Wp.post {α : Type} {m : M α} {Q Q1 : α → Store → Prop} {S : Store} (h : Wp m Q1 X S) (hq : ∀ a S', Q1 a S' → Q a S') : Wp m Q X S := by
  rw [Wp_eq] at *
  exact wp_post h hq
/-! ### turns of loops, by their text -/
theorem Wp.lcB {env : Env} {elt : Ex} {t : Tg} {cond : Exs} {ws : List Nat} {v : Val} {Q : Option PyData → Store → Prop} {S : Store}
    (h : bdX t v (wipeE env ws) fun e1 => XA Γ gl X cond e1 (fun b S => Bra b (XE Γ gl X elt e1 (fun u S => ow u S fun y S => Q (some y) S) S) (Q none S)) S) : Wp (lcB Γ gl elt t cond ws env v) Q X S := by
  rw [Wp_eq, wp_lcB]
  refine wp_bd ?_
  unfold bdX at h ⊢
  split at h
  · exact wp_mono1 (fun b S q => bra_mono q (fun q => wp_mono1 (fun u S q => wp_ow q) (xe elt q)) fun q => q) (xa cond h)
  · exact sat_mono (fun e h => wp_mono1 (fun b S q => bra_mono q (fun q => wp_mono1 (fun u S q => wp_ow q) (xe elt q)) fun q => q) (xa cond h)) h
  · exact h.elim
theorem Wp.foB {env : Env} {t : Tg} {b : Sms} {v : Val} {Q : Fl → Store → Prop} {S : Store} (h : bdX t v env fun e1 => XSs Γ gl X b e1 Q S) : Wp (foB Γ gl t b v env) Q X S := by
  rw [Wp_eq, wp_foB]
  refine wp_bd ?_
  unfold bdX at h ⊢
  split at h
  · exact xss b h
  · exact sat_mono (fun e h => xss b h) h
  · exact h.elim
theorem Wp.whC {env : Env} {c : Ex} {Q : Bool → Store → Prop} {S : Store} (h : XE Γ gl X c env (fun v S => tb v fun b => Q b S) S) : Wp (whC Γ gl c env) Q X S := by
  rw [Wp_eq, wp_whC]
  exact wp_mono1 (fun v S q => wp_tb q) (xe c h)
theorem Wp.execs {env : Env} {b : Sms} {Q : Fl → Store → Prop} {S : Store} (h : XSs Γ gl X b env Q S) : Wp (execs Γ gl b env) Q X S := by
  rw [Wp_eq]
  exact xss b h
/-! ### loops -/
section
variable {S : Store} {p : Option (Nat × List PyData)}
theorem Wp.lcI {f : Val → M (Option PyData)} {Q : List PyData → Store → Prop} {its : List Val} (Inv : List Val → List PyData → Store → Prop)
    (here : ∀ vs acc S, Inv vs acc S → Here p S)
    (step : ∀ v vs acc S, Inv (v :: vs) acc S → Wp (f v) (fun o T => Inv vs (acc ++ o.toList) T) X S)
    (fin : ∀ acc S, Inv [] acc S → Q acc S) (h : Inv its [] S) : Wp (lcL p f its []) Q X S := by
  rw [Wp_eq]
  exact wp_lcL Inv here (fun v vs acc S i => by have q := step v vs acc S i; rw [Wp_eq] at q; exact q) fin its [] S h
theorem Wp.lc {f : Val → M (Option PyData)} {Q : List PyData → Store → Prop} {its : List Val} (g : Val → Option PyData) (hp : Here p S)
    (h : ∀ v ∈ its, Wp (f v) (fun o T => o = g v ∧ T = S) X S) (q : Q (its.filterMap g) S) : Wp (lcL p f its []) Q X S := by
  rw [Wp_eq]
  exact wp_lc g hp (fun v hv => by have q := h v hv; rw [Wp_eq] at q; exact q) q
theorem Wp.lcd {f : Val → M (Option PyData)} {Q : List PyData → Store → Prop} {xs : List PyData} (g : PyData → Option PyData) (hp : Here p S)
    (h : ∀ x ∈ xs, Wp (f (.d x)) (fun o T => o = g x ∧ T = S) X S) (q : Q (xs.filterMap g) S) : Wp (lcL p f (xs.map .d) []) Q X S := by
  rw [Wp_eq]
  exact wp_lcd g hp (fun v hv => by have q := h v hv; rw [Wp_eq] at q; exact q) q
theorem Wp.lc_map {f : Val → M (Option PyData)} {Q : List PyData → Store → Prop} {xs : List PyData} (g : PyData → PyData) (hp : Here p S)
    (h : ∀ x ∈ xs, Wp (f (.d x)) (fun o T => o = some (g x) ∧ T = S) X S) (q : Q (xs.map g) S) : Wp (lcL p f (xs.map .d) []) Q X S := by
  rw [Wp_eq]
  exact wp_lc_map g hp (fun v hv => by have q := h v hv; rw [Wp_eq] at q; exact q) q
theorem Wp.lc_filter {f : Val → M (Option PyData)} {Q : List PyData → Store → Prop} {xs : List PyData} (b : PyData → Bool) (hp : Here p S)
    (h : ∀ x ∈ xs, Wp (f (.d x)) (fun o T => o = (if b x = true then some x else none) ∧ T = S) X S) (q : Q (xs.filter b) S) : Wp (lcL p f (xs.map .d) []) Q X S := by
  rw [Wp_eq]
  exact wp_lc_filter b hp (fun v hv => by have q := h v hv; rw [Wp_eq] at q; exact q) q
theorem Wp.lcr {f : Val → M (Option PyData)} {Q : List PyData → Store → Prop} {lo : Int} {n : Nat} (g : Int → Option PyData) (hp : Here p S)
    (h : ∀ i < n, Wp (f (.d (.int (lo + (i : Nat))))) (fun o T => o = g (lo + (i : Nat)) ∧ T = S) X S) (q : Q ((List.range n).filterMap fun i => g (lo + (i : Nat))) S) : Wp (lcL p f (rng lo n) []) Q X S := by
  rw [Wp_eq]
  exact wp_lcr g hp (fun v hv => by have q := h v hv; rw [Wp_eq] at q; exact q) q
theorem Wp.forI {f : Val → Env → M Fl} {Q : Fl → Store → Prop} {its : List Val} {env : Env} (Inv : List Val → Env → Store → Prop)
    (here : ∀ vs env S, Inv vs env S → Here p S)
    (step : ∀ v vs env S, Inv (v :: vs) env S → Wp (f v env) (forQ (Inv vs) Q) X S)
    (fin : ∀ env S, Inv [] env S → Q (.nx env) S) (h : Inv its env S) : Wp (forL p f its env) Q X S := by
  rw [Wp_eq]
  exact wp_forL Inv here (fun v vs acc S i => by have q := step v vs acc S i; rw [Wp_eq] at q; exact q) fin its env S h
theorem Wp.forD {f : Val → Env → M Fl} {Q : Fl → Store → Prop} {its : List Val} {env : Env} (Inv : List Val → Env → Store → Prop)
    (here : ∀ vs env S, Inv vs env S → Here p S)
    (step : ∀ dn v vs env S, its = dn ++ v :: vs → Inv dn env S → Wp (f v env) (forQ (Inv (dn ++ [v])) Q) X S)
    (fin : ∀ env S, Inv its env S → Q (.nx env) S) (h : Inv [] env S) : Wp (forL p f its env) Q X S := by
  rw [Wp_eq]
  exact wp_forD Inv here (fun dn v vs acc S e i => by have q := step dn v vs acc S e i; rw [Wp_eq] at q; exact q) fin h
theorem Wp.whl {c : Env → M Bool} {f : Env → M Fl} {Q : Fl → Store → Prop} {env : Env} (Inv : Nat → Env → Store → Prop) (n : Nat) (hn : n < 1000000000) (h : Inv n env S)
    (step : ∀ n env S, Inv n env S → Wp (c env) (fun b T => Bra b (Wp (f env) (forQ (fun e T => ∃ m, m < n ∧ Inv m e T) Q) X T) (Q (.nx env) T)) X S) : Wp (whlL c f fuel env) Q X S := by
  rw [Wp_eq]
  refine wp_whl Inv n hn h fun n env S i => ?_
  have q := step n env S i
  rw [Wp_eq] at q
  refine wp_mono1 (fun b T q => ?_) q
  rw [Bra_eq] at q
  cases b with
  | true =>
    rw [bra_t] at q ⊢
    rw [Wp_eq] at q
    exact q
  | false => exact q
end
end
end Mp.Ww
end
section
set_option autoImplicit false
set_option linter.all false
set_option maxRecDepth 100000
set_option maxHeartbeats 4000000
/-! Ws6: what is asked may be weaker; two ways meet again. -/
namespace Mp.Ww
open PySem
section
theorem Opt.mono {α : Type} {o : Option α} {K K' : α → Prop} (h : ∀ x, K x → K' x) (q : Opt o K) : Opt o K' := by
  obtain ⟨b, e, k⟩ := q.ex
  exact .of e (h _ k)
theorem Look.mono {o : Option (Option Ob)} {K K' : Ob → Prop} (h : ∀ x, K x → K' x) (q : Look o K) : Look o K' := by
  obtain ⟨b, e, k⟩ := q.ex
  exact look_of e (h _ k)
theorem Bra.mono {b : Bool} {p q p' q' : Prop} (k : Bra b p q) (h : p → p') (h' : q → q') : Bra b p' q' := by
  cases b with
  | true =>
    rw [Bra_eq] at k
    exact Bra.t rfl (h k)
  | false =>
    rw [Bra_eq] at k
    exact Bra.f rfl (h' k)
theorem bn_mono {o : BinK} {x y : PyData} {K K' : PyData → Prop} (h : ∀ x, K x → K' x) (q : bnX o x y K) : bnX o x y K' := by
  unfold bnX at *
  split at q <;> first | exact h _ q | exact ⟨q.1, h _ q.2⟩ | exact PuM h q
theorem ix_mono {v : Val} {i : PyData} {S : Store} {K K' : PyData → Prop} (h : ∀ x, K x → K' x) (q : ixX v i S K) : ixX v i S K' := by
  unfold ixX at *
  split at q
  · exact q.mono h
  · exact q.mono h
  · refine q.mono fun b k => ?_
    cases b with
    | l xs => exact Opt.mono h k
    | m kvs => exact PuM h k
  · exact q.mono fun b k => PuM h k
  · exact q.mono fun n k => h _ k
  · exact PuM h q
  · exact q
theorem sl_mono {v : Val} {lo hi : Option Int} {S : Store} {K K' : PyData → Prop} (h : ∀ x, K x → K' x) (q : slX v lo hi S K) : slX v lo hi S K' := by
  unfold slX at *
  split at q
  · exact h _ q
  · exact h _ q
  · exact ⟨q.1, h _ q.2⟩
  · exact h _ q
  · exact q.mono fun b k => PuM h k
  · exact PuM h q
theorem len_mono {v : Val} {S : Store} {K K' : PyData → Prop} (h : ∀ x, K x → K' x) (q : lenX v S K) : lenX v S K' := by
  unfold lenX at *
  split at q
  · exact h _ q
  · exact h _ q
  · exact ⟨q.1, h _ q.2⟩
  · refine q.mono fun b k => ?_
    cases b with
    | l xs => exact h _ k
    | m _ => exact k
  · exact h _ q
  · exact PuM h q
theorem b1Y_mono {b : B1} {x : PyData} {K K' : PyData → Prop} (h : ∀ x, K x → K' x) (q : b1Y b x K) : b1Y b x K' := by
  unfold b1Y at *
  split at q <;> first | exact h _ q | exact PuM h q
theorem b1_mono {b : B1} {v : Val} {S : Store} {K K' : PyData → Prop} (h : ∀ x, K x → K' x) (q : b1X b v S K) : b1X b v S K' := by
  cases b with
  | len => exact len_mono h q
  | _ => exact pk_mono (fun x k => b1Y_mono h k) q
theorem m0_mono {m : M0} {v : Val} {S : Store} {K K' : PyData → Store → Prop} (h : ∀ x S, K x S → K' x S) (q : m0X m v S K) : m0X m v S K' := by
  unfold m0X at *
  split at q
  · refine q.mono fun b k => ?_
    cases b with
    | l xs => exact Opt.mono (fun y => h _ _) k
    | m _ => exact k
  · exact h _ _ q
  · exact q
theorem m1_mono {m : M1} {v : Val} {y : PyData} {S : Store} {K K' : PyData → Store → Prop} (h : ∀ x S, K x S → K' x S) (q : m1X m v y S K) : m1X m v y S K' := by
  unfold m1X at *
  split at q
  · refine q.mono fun b k => ?_
    cases b with
    | l xs => exact ⟨k.1, h _ _ k.2⟩
    | m _ => exact k
  · refine q.mono fun b k => ?_
    cases b with
    | l xs => exact ⟨k.1, h _ _ k.2⟩
    | m _ => exact k
  · refine q.mono fun b k => ?_
    cases b with
    | l xs => exact ⟨k.1, Opt.mono (fun p => Opt.mono fun y => h _ _) k.2⟩
    | m _ => exact k
  · exact q
  · exact q
  · exact q
  · exact pk_mono (fun x k => PuM (fun z => h _ _) k) q
theorem m2_mono {m : M2} {v : Val} {y z : PyData} {S : Store} {K K' : PyData → Store → Prop} (h : ∀ x S, K x S → K' x S) (q : m2X m v y z S K) : m2X m v y z S K' :=
  pk_mono (fun x k => PuM (fun z => h _ _) k) q
theorem wk_mono {v : Val} {S : Store} {K K' : Src → Prop} (h : ∀ x, K x → K' x) (q : wkX v S K) : wkX v S K' := by
  unfold wkX at *
  split at q <;> first | exact h _ q | exact q | skip
  refine q.mono fun b k => ?_
  cases b with
  | l xs => exact h _ k
  | m _ => exact k
theorem en_mono {v : Val} {S : Store} {K K' : Src → Prop} (h : ∀ x, K x → K' x) (q : enX v S K) : enX v S K' := by
  unfold enX at *
  split at q <;> first | exact h _ q | exact q | skip
  refine q.mono fun b k => ?_
  cases b with
  | l xs => exact h _ k
  | m _ => exact k
theorem zp_mono {x y : PyData} {K K' : Src → Prop} (h : ∀ x, K x → K' x) (q : zpX x y K) : zpX x y K' := by
  unfold zpX at *
  split at q <;> first | exact h _ q | exact q
theorem rv_mono {x : PyData} {K K' : Src → Prop} (h : ∀ x, K x → K' x) (q : rvX x K) : rvX x K' := by
  unfold rvX at *
  split at q <;> first | exact h _ q | exact q
theorem bd_mono {t : Tg} {v : Val} {env : Env} {K K' : Env → Prop} (h : ∀ x, K x → K' x) (q : bdX t v env K) : bdX t v env K' := by
  unfold bdX at *
  split at q
  · exact h _ q
  · exact sat_mono h q
  · exact q
theorem ls_mono {x : PyData} {K K' : List PyData → Prop} (h : ∀ x, K x → K' x) (q : lsX x K) : lsX x K' := by
  unfold lsX at *
  split at q
  · exact h _ q
  · exact q
theorem mk_mono {v : Val} {K K' : Ob → Prop} (h : ∀ x, K x → K' x) (q : mkX v K) : mkX v K' := by
  unfold mkX at *
  split at q <;> first | exact h _ q | exact q
theorem slt_mono {o : Option (Option Val)} {K K' : Val → Prop} (h : ∀ x, K x → K' x) (q : sltX o K) : sltX o K' := by
  unfold sltX at *
  split at q
  · exact h _ q
  · exact q
end
section
variable {Γ : Nat → List Val → M Val} {gl : List PyData} {X : XT}
theorem XE.mono (e : Ex) {env : Env} {Q Q' : Val → Store → Prop} {S : Store} (h : ∀ v S, Q v S → Q' v S) (q : XE Γ gl X e env Q S) : XE Γ gl X e env Q' S := by
  rw [XE_eq] at q ⊢
  exact wp_mono1 h q
theorem XD.mono (e : Exs) {env : Env} {Q Q' : List PyData → Store → Prop} {S : Store} (h : ∀ v S, Q v S → Q' v S) (q : XD Γ gl X e env Q S) : XD Γ gl X e env Q' S := by
  rw [XD_eq] at q ⊢
  exact wp_mono1 h q
theorem XV.mono (e : Exs) {env : Env} {Q Q' : List Val → Store → Prop} {S : Store} (h : ∀ v S, Q v S → Q' v S) (q : XV Γ gl X e env Q S) : XV Γ gl X e env Q' S := by
  rw [XV_eq] at q ⊢
  exact wp_mono1 h q
theorem XA.mono (e : Exs) {env : Env} {Q Q' : Bool → Store → Prop} {S : Store} (h : ∀ v S, Q v S → Q' v S) (q : XA Γ gl X e env Q S) : XA Γ gl X e env Q' S := by
  rw [XA_eq] at q ⊢
  exact wp_mono1 h q
theorem XO.mono (e : Exs) {env : Env} {Q Q' : Bool → Store → Prop} {S : Store} (h : ∀ v S, Q v S → Q' v S) (q : XO Γ gl X e env Q S) : XO Γ gl X e env Q' S := by
  rw [XO_eq] at q ⊢
  exact wp_mono1 h q
theorem XI.mono (e : It) {env : Env} {Q Q' : Src → Store → Prop} {S : Store} (h : ∀ v S, Q v S → Q' v S) (q : XI Γ gl X e env Q S) : XI Γ gl X e env Q' S := by
  rw [XI_eq] at q ⊢
  exact wp_mono1 h q
theorem XS.mono (e : Sm) {env : Env} {Q Q' : Fl → Store → Prop} {S : Store} (h : ∀ v S, Q v S → Q' v S) (q : XS Γ gl X e env Q S) : XS Γ gl X e env Q' S := by
  rw [XS_eq] at q ⊢
  exact wp_mono1 h q
theorem XSs.mono (e : Sms) {env : Env} {Q Q' : Fl → Store → Prop} {S : Store} (h : ∀ v S, Q v S → Q' v S) (q : XSs Γ gl X e env Q S) : XSs Γ gl X e env Q' S := by
  rw [XSs_eq] at q ⊢
  exact wp_mono1 h q
theorem XSs.nil {env : Env} {Q : Fl → Store → Prop} {S : Store} (h : Q (.nx env) S) : XSs Γ gl X .nil env Q S := XSs.st .nil h
theorem XSs.cons {s : Sm} {ss : Sms} {env : Env} {Q : Fl → Store → Prop} {S : Store} (h : XS Γ gl X s env (fun fl S => thX (fun e S => XSs Γ gl X ss e Q S) Q fl S) S) : XSs Γ gl X (.cons s ss) env Q S := XSs.st (.cons s ss) h
/-- two ways that meet again -/
theorem Bra.join {t : Bool} {a b : Sms} {env : Env} {f : Env → Store → Prop} {Q : Fl → Store → Prop} {S : Store} (J : Env → Store → Prop) (hj : ∀ e S, J e S → f e S)
    (ha : t = true → XSs Γ gl X a env (fun fl S => thX J Q fl S) S) (hb : t = false → XSs Γ gl X b env (fun fl S => thX J Q fl S) S) : Bra t (XSs Γ gl X a env (fun fl S => thX f Q fl S) S) (XSs Γ gl X b env (fun fl S => thX f Q fl S) S) := by
  have m : ∀ (fl : Fl) (S : Store), thX J Q fl S → thX f Q fl S := fun fl S k => by
    cases fl with
    | nx e => exact hj e S k
    | _ => exact k
  exact Bra.both (fun e => XSs.mono a m (ha e)) fun e => XSs.mono b m (hb e)
/-- one statement, then the others -/
theorem XSs.stepJ {s : Sm} {ss : Sms} {env : Env} {Q : Fl → Store → Prop} {S : Store} (J : Env → Store → Prop) (h : XS Γ gl X s env (fun fl T => match fl with | .nx e => J e T | _ => False) S) (k : ∀ e T, J e T → XSs Γ gl X ss e Q T) : XSs Γ gl X (.cons s ss) env Q S := by
  refine XSs.cons ?_
  refine XS.mono s (fun fl T q => ?_) h
  cases fl with
  | nx e => exact k e T q
  | _ => exact q.elim
theorem XSs.step {s : Sm} {ss : Sms} {env e : Env} {Q : Fl → Store → Prop} {S S' : Store} (h : XS Γ gl X s env (fun fl T => fl = .nx e ∧ T = S') S) (k : XSs Γ gl X ss e Q S') : XSs Γ gl X (.cons s ss) env Q S := by
  refine XSs.cons ?_
  refine XS.mono s (fun fl T q => ?_) h
  obtain ⟨rfl, rfl⟩ := q
  exact k
/-- the same, where the test is an and, an or -/
theorem Bra.joinA {p : Bool} {es : Exs} {a b : Sms} {env : Env} {f : Env → Store → Prop} {Q : Fl → Store → Prop} {S : Store} (J : Env → Store → Prop) (hj : ∀ e S, J e S → f e S)
    (hx : p = true → XA Γ gl X es env (fun q T => Bra q (XSs Γ gl X a env (fun fl S => thX J Q fl S) T) (XSs Γ gl X b env (fun fl S => thX J Q fl S) T)) S) (hb : p = false → XSs Γ gl X b env (fun fl S => thX J Q fl S) S) :
    Bra p (XA Γ gl X es env (fun q T => tb (.d (.bool q)) fun t => Bra t (XSs Γ gl X a env (fun fl S => thX f Q fl S) T) (XSs Γ gl X b env (fun fl S => thX f Q fl S) T)) S)
      (tb (.d (.bool false)) fun t => Bra t (XSs Γ gl X a env (fun fl S => thX f Q fl S) S) (XSs Γ gl X b env (fun fl S => thX f Q fl S) S)) := by
  have m : ∀ (fl : Fl) (S : Store), thX J Q fl S → thX f Q fl S := fun fl S k => by
    cases fl with
    | nx e => exact hj e S k
    | _ => exact k
  exact Bra.both (fun e => XA.mono es (fun q T k => Bra.mono k (XSs.mono a m) (XSs.mono b m)) (hx e)) fun e => Bra.f rfl (XSs.mono b m (hb e))
theorem Bra.joinO {p : Bool} {es : Exs} {a b : Sms} {env : Env} {f : Env → Store → Prop} {Q : Fl → Store → Prop} {S : Store} (J : Env → Store → Prop) (hj : ∀ e S, J e S → f e S)
    (ha : p = true → XSs Γ gl X a env (fun fl S => thX J Q fl S) S) (hx : p = false → XO Γ gl X es env (fun q T => Bra q (XSs Γ gl X a env (fun fl S => thX J Q fl S) T) (XSs Γ gl X b env (fun fl S => thX J Q fl S) T)) S) :
    Bra p (tb (.d (.bool true)) fun t => Bra t (XSs Γ gl X a env (fun fl S => thX f Q fl S) S) (XSs Γ gl X b env (fun fl S => thX f Q fl S) S))
      (XO Γ gl X es env (fun q T => tb (.d (.bool q)) fun t => Bra t (XSs Γ gl X a env (fun fl S => thX f Q fl S) T) (XSs Γ gl X b env (fun fl S => thX f Q fl S) T)) S) := by
  have m : ∀ (fl : Fl) (S : Store), thX J Q fl S → thX f Q fl S := fun fl S k => by
    cases fl with
    | nx e => exact hj e S k
    | _ => exact k
  exact Bra.both (fun e => Bra.t rfl (XSs.mono a m (ha e))) fun e => XO.mono es (fun q T k => Bra.mono k (XSs.mono a m) (XSs.mono b m)) (hx e)
end
end Mp.Ww
end
section
set_option autoImplicit false
set_option linter.all false
/-! Gd01: defs of the law k01 in the small Python, callees and constants as parameters (printed by mklib.py) -/
namespace Gd
open PySem Mp
def A_is_spelled (g_SMALL : Nat) (g_FIGURES : Nat) : Fn := ⟨2, 3, (.cons (.ifs (.or (.cons (.not (.isi (.var 0) .tstr)) (.cons (.not (.chn .le .le (.con (.int 1)) (.b1 .len (.var 0)) (.con (.int 8)))) (.cons (.cmp .notin (.ix (.var 0) (.con (.int 0))) (.var 1)) .nil)))) (.cons (.rtn (.con (.bool false))) .nil) .nil) (.cons (.rtn (.cmp .eq (.lc (.var 2) (.nm 2) (.val (.slf (.var 0) (.con (.int 1)))) (.cons (.and (.cons (.cmp .notin (.var 2) (.glb g_SMALL)) (.cons (.cmp .notin (.var 2) (.glb g_FIGURES)) .nil))) .nil) [2]) (.lst .nil))) .nil)), false⟩
def A_is_name (k_is_spelled : Nat) (g_SMALL : Nat) : Fn := ⟨1, 1, (.cons (.rtn (.call k_is_spelled (.cons (.var 0) (.cons (.glb g_SMALL) .nil)))) .nil), false⟩
def A_is_derived_name (k_is_spelled : Nat) (g_CAPITAL : Nat) : Fn := ⟨1, 1, (.cons (.rtn (.call k_is_spelled (.cons (.var 0) (.cons (.glb g_CAPITAL) .nil)))) .nil), false⟩
def A_ascends : Fn := ⟨1, 2, (.cons (.rtn (.cmp .eq (.lc (.var 1) (.nm 1) (.rg2 (.con (.int 1)) (.b1 .len (.var 0))) (.cons (.cmp .ge (.ix (.var 0) (.bin .sub (.var 1) (.con (.int 1)))) (.ix (.var 0) (.var 1))) .nil) [1]) (.lst .nil))) .nil), false⟩
def A_is_fact (k_is_name : Nat) (k_is_derived_name : Nat) : Fn := ⟨1, 2, (.cons (.ifs (.or (.cons (.not (.isi (.var 0) .ttuple)) (.cons (.not (.chn .le .le (.con (.int 1)) (.b1 .len (.var 0)) (.con (.int 4)))) .nil))) (.cons (.rtn (.con (.bool false))) .nil) .nil) (.cons (.ifs (.and (.cons (.not (.call k_is_name (.cons (.ix (.var 0) (.con (.int 0))) .nil))) (.cons (.not (.call k_is_derived_name (.cons (.ix (.var 0) (.con (.int 0))) .nil))) .nil))) (.cons (.rtn (.con (.bool false))) .nil) .nil) (.cons (.rtn (.cmp .eq (.lc (.var 1) (.nm 1) (.val (.slf (.var 0) (.con (.int 1)))) (.cons (.not (.call k_is_name (.cons (.var 1) .nil))) .nil) [1]) (.lst .nil))) .nil))), false⟩
def A_is_told (k_is_fact : Nat) (k_is_name : Nat) : Fn := ⟨2, 3, (.cons (.ifs (.or (.cons (.not (.call k_is_fact (.cons (.var 1) .nil))) (.cons (.not (.call k_is_name (.cons (.ix (.var 1) (.con (.int 0))) .nil))) .nil))) (.cons (.rtn (.con (.bool false))) .nil) .nil) (.cons (.rtn (.cmp .eq (.lc (.var 2) (.nm 2) (.val (.slf (.var 1) (.con (.int 1)))) (.cons (.cmp .notin (.var 2) (.var 0)) .nil) [2]) (.lst .nil))) .nil)), false⟩
def A_are_things (k_ascends : Nat) (k_is_name : Nat) : Fn := ⟨1, 2, (.cons (.ifs (.or (.cons (.not (.isi (.var 0) .tlist)) (.cons (.not (.chn .le .le (.con (.int 1)) (.b1 .len (.var 0)) (.con (.int 8)))) (.cons (.cmp .ne (.lc (.var 1) (.nm 1) (.val (.var 0)) (.cons (.not (.call k_is_name (.cons (.var 1) .nil))) .nil) [1]) (.lst .nil)) .nil)))) (.cons (.rtn (.con (.bool false))) .nil) .nil) (.cons (.rtn (.call k_ascends (.cons (.var 0) .nil))) .nil)), false⟩
def A_is_world (k_is_told : Nat) (k_ascends : Nat) (k_are_things : Nat) : Fn := ⟨1, 2, (.cons (.ifs (.or (.cons (.not (.isi (.var 0) .ttuple)) (.cons (.cmp .ne (.b1 .len (.var 0)) (.con (.int 2))) (.cons (.not (.call k_are_things (.cons (.ix (.var 0) (.con (.int 0))) .nil))) (.cons (.not (.isi (.ix (.var 0) (.con (.int 1))) .tlist)) .nil))))) (.cons (.rtn (.con (.bool false))) .nil) .nil) (.cons (.rtn (.and (.cons (.cmp .eq (.lc (.var 1) (.nm 1) (.val (.ix (.var 0) (.con (.int 1)))) (.cons (.not (.call k_is_told (.cons (.ix (.var 0) (.con (.int 0))) (.cons (.var 1) .nil)))) .nil) [1]) (.lst .nil)) (.cons (.call k_ascends (.cons (.ix (.var 0) (.con (.int 1))) .nil)) .nil)))) .nil)), false⟩
def A__law_hash : Fn := ⟨2, 3, (.cons (.asg (.nm 2) (.bin .mod (.b1 .int (.bin .add (.bin .add (.bin .add (.bin .mul (.var 0) (.con (.int 1140671))) (.bin .mul (.bin .mul (.con (.int 27644437)) (.var 1)) (.var 1))) (.bin .mul (.con (.int 131)) (.var 1))) (.con (.int 19)))) (.con (.int 2147483629)))) (.cons (.asg (.nm 2) (.bin .mod (.b1 .int (.bin .add (.bin .add (.bin .mul (.var 2) (.var 2)) (.bin .mul (.con (.int 62089)) (.var 1))) (.con (.int 32416187)))) (.con (.int 2147483587)))) (.cons (.rtn (.bin .mod (.b1 .int (.bin .mul (.var 2) (.con (.int 48271)))) (.con (.int 2147483647)))) .nil))), false⟩
def A__law_random (k__law_hash : Nat) : Fn := ⟨2, 4, (.cons (.ifs (.cmp .gt (.ix (.var 0) (.con (.int 0))) (.con (.int 0))) (.cons (.asg (.nm 2) (.bin .mod (.b1 .int (.ix (.var 0) (.con (.int 0)))) (.var 1))) (.cons (.setI (.var 0) (.con (.int 0)) (.bin .fdiv (.ix (.var 0) (.con (.int 0))) (.var 1))) (.cons (.rtn (.var 2)) .nil))) .nil) (.cons (.asg (.nm 2) (.con (.int 0))) (.cons (.for_ (.nm 3) (.rg1 (.bin .add (.con (.int 1)) (.bin .fdiv (.m0 .bitlen (.var 1)) (.con (.int 30))))) (.cons (.setI (.var 0) (.con (.int 2)) (.bin .add (.ix (.var 0) (.con (.int 2))) (.con (.int 1)))) (.cons (.asg (.nm 2) (.bin .add (.bin .mul (.var 2) (.con (.int 2147483587))) (.call k__law_hash (.cons (.ix (.var 0) (.con (.int 1))) (.cons (.ix (.var 0) (.con (.int 2))) .nil))))) .nil))) (.cons (.rtn (.bin .mod (.b1 .int (.var 2)) (.var 1))) .nil)))), false⟩
def A__law_cell : Fn := ⟨2, 2, (.cons (.ifs (.cmp .lt (.var 1) (.b1 .len (.var 0))) (.cons (.rtn (.ix (.var 0) (.var 1))) .nil) .nil) (.cons (.rtn (.bin .mod (.b1 .sum (.slt (.var 0) (.con (.int 1)))) (.con (.int 1000003)))) .nil)), false⟩
def A__law_generator (k__law_cell : Nat) : Fn := ⟨2, 3, (.cons (.asg (.nm 2) (.call k__law_cell (.cons (.var 0) (.cons (.var 1) .nil)))) (.cons (.rtn (.mk (.lst (.cons (.bin .mod (.b1 .int (.b2 .max (.bin .sub (.var 2) (.bin .pow (.con (.int 10)) (.con (.int 18)))) (.con (.int 0)))) (.bin .pow (.bin .pow (.con (.int 10)) (.con (.int 60))) (.con (.int 10)))) (.cons (.bin .mod (.b1 .int (.var 2)) (.con (.int 2147483647))) (.cons (.bin .mul (.con (.int 1000)) (.var 1)) .nil)))))) .nil)), true⟩
def A__law_pick (k__law_random : Nat) : Fn := ⟨2, 2, (.cons (.rtn (.ix (.var 1) (.call k__law_random (.cons (.var 0) (.cons (.b1 .len (.var 1)) .nil))))) .nil), false⟩
def A__law_drawn_order (k__law_random : Nat) : Fn := ⟨2, 4, (.cons (.par [2, 3] (.cons (.mk (.b1 .list (.var 1))) (.cons (.mk (.lst .nil)) .nil))) (.cons (.whl (.cmp .ne (.var 2) (.lst .nil)) (.cons (.ex (.m1 .append (.var 3) (.m1 .pop (.var 2) (.call k__law_random (.cons (.var 0) (.cons (.b1 .len (.var 2)) .nil)))))) .nil)) (.cons (.rtn (.var 3)) .nil))), false⟩
def A__law_things (k__law_pick : Nat) (k__law_random : Nat) : Fn := ⟨2, 5, (.cons (.asg (.nm 2) (.lst (.cons (.lst (.cons (.con (.str "a")) (.cons (.con (.str "b")) (.cons (.con (.str "c")) (.cons (.con (.str "d")) .nil))))) (.cons (.lst (.cons (.con (.str "a")) (.cons (.con (.str "a1")) (.cons (.con (.str "aa")) (.cons (.con (.str "b")) .nil))))) (.cons (.lst (.cons (.con (.str "n0")) (.cons (.con (.str "n1")) (.cons (.con (.str "n2")) (.cons (.con (.str "n3")) .nil))))) (.cons (.lst (.cons (.con (.str "edge")) (.cons (.con (.str "x")) (.cons (.con (.str "y")) (.cons (.con (.str "zz")) .nil))))) (.cons (.lst (.cons (.con (.str "hall")) (.cons (.con (.str "home")) (.cons (.con (.str "west")) (.cons (.con (.str "west2")) .nil))))) .nil))))))) (.cons (.par [3, 4] (.cons (.call k__law_pick (.cons (.var 0) (.cons (.var 2) .nil))) (.cons (.call k__law_random (.cons (.var 0) (.cons (.bin .sub (.con (.int 5)) (.var 1)) .nil))) .nil))) (.cons (.rtn (.slb (.var 3) (.var 4) (.bin .add (.var 4) (.var 1)))) .nil))), false⟩
def A__law_relations_x1 (k__law_random : Nat) : Exs := (.cons (.lst (.cons (.tup (.cons (.con (.str "edge")) (.cons (.con (.int 2)) .nil))) (.cons (.tup (.cons (.con (.str "red")) (.cons (.con (.int 1)) .nil))) (.cons (.tup (.cons (.con (.str "likes")) (.cons (.con (.int 2)) .nil))) .nil)))) (.cons (.lst (.cons (.tup (.cons (.con (.str "s")) (.cons (.con (.int 2)) .nil))) (.cons (.tup (.cons (.con (.str "red")) (.cons (.con (.int 1)) .nil))) (.cons (.tup (.cons (.con (.str "blue")) (.cons (.con (.int 1)) .nil))) .nil)))) .nil))
def A__law_relations_x2 (k__law_random : Nat) : Exs := (.cons (.lst (.cons (.tup (.cons (.con (.str "a")) (.cons (.con (.int 2)) .nil))) (.cons (.tup (.cons (.con (.str "b")) (.cons (.con (.int 1)) .nil))) (.cons (.tup (.cons (.con (.str "a")) (.cons (.con (.int 0)) .nil))) .nil)))) (.cons (.lst (.cons (.tup (.cons (.con (.str "s")) (.cons (.con (.int 2)) .nil))) (.cons (.tup (.cons (.con (.str "red")) (.cons (.con (.int 1)) .nil))) (.cons (.tup (.cons (.con (.str "r3")) (.cons (.con (.int 3)) .nil))) .nil)))) .nil))
def A__law_relations_x3 (k__law_random : Nat) : Exs := (.cons (.lst (.cons (.tup (.cons (.con (.str "edge")) (.cons (.con (.int 2)) .nil))) (.cons (.tup (.cons (.con (.str "red")) (.cons (.con (.int 1)) .nil))) (.cons (.tup (.cons (.con (.str "rain")) (.cons (.con (.int 0)) .nil))) .nil)))) (.cons (.lst (.cons (.tup (.cons (.con (.str "edge")) (.cons (.con (.int 2)) .nil))) (.cons (.tup (.cons (.con (.str "edge")) (.cons (.con (.int 1)) .nil))) (.cons (.tup (.cons (.con (.str "edge")) (.cons (.con (.int 0)) .nil))) .nil)))) (A__law_relations_x2 k__law_random)))
def A__law_relations_x4 (k__law_random : Nat) : Sms := (.cons (.asg (.nm 1) (.lst (A__law_relations_x3 k__law_random))) (.cons (.asg (.nm 1) (.bin .add (.var 1) (.lst (A__law_relations_x1 k__law_random)))) (.cons (.rtn (.ix (.var 1) (.ix (.lst (.cons (.con (.int 0)) (.cons (.con (.int 0)) (.cons (.con (.int 0)) (.cons (.con (.int 1)) (.cons (.con (.int 2)) (.cons (.con (.int 3)) (.cons (.con (.int 4)) (.cons (.con (.int 5)) .nil))))))))) (.call k__law_random (.cons (.var 0) (.cons (.con (.int 8)) .nil)))))) .nil)))
def A__law_relations (k__law_random : Nat) : Fn := ⟨1, 2, (A__law_relations_x4 k__law_random), false⟩
def A__law_rows : Fn := ⟨2, 6, (.cons (.asg (.nm 2) (.lst (.cons (.tup .nil) .nil))) (.cons (.for_ (.nm 3) (.rg1 (.var 1)) (.cons (.asg (.nm 2) (.b2 .sum (.lc (.lc (.bin .add (.var 4) (.tup (.cons (.var 5) .nil))) (.nm 5) (.val (.var 0)) .nil [5]) (.nm 4) (.val (.var 2)) .nil [4]) (.lst .nil))) .nil)) (.cons (.rtn (.var 2)) .nil))), false⟩
def A__law_spread (k__law_pick : Nat) (k__law_random : Nat) (k__law_rows : Nat) : Fn := ⟨4, 10, (.cons (.asg (.tp [4, 5]) (.var 2)) (.cons (.ifs (.cmp .eq (.var 5) (.con (.int 3))) (.cons (.asg (.nm 6) (.lc (.b1 .tuple (.lc (.call k__law_pick (.cons (.var 0) (.cons (.var 1) .nil))) (.nm 9) (.rg1 (.con (.int 3))) .nil [9])) (.nm 8) (.rg1 (.call k__law_random (.cons (.var 0) (.cons (.con (.int 4)) .nil)))) .nil [8])) .nil) (.cons (.asg (.nm 6) (.lc (.var 7) (.nm 7) (.val (.call k__law_rows (.cons (.var 1) (.cons (.var 5) .nil)))) (.cons (.cmp .eq (.call k__law_random (.cons (.var 0) (.cons (.var 3) .nil))) (.con (.int 0))) .nil) [7])) .nil)) (.cons (.rtn (.lc (.bin .add (.tup (.cons (.var 4) .nil)) (.var 7)) (.nm 7) (.val (.var 6)) .nil [7])) .nil))), false⟩
def A__law_links (k__law_drawn_order : Nat) (k__law_random : Nat) : Fn := ⟨3, 9, (.cons (.par [3, 4] (.cons (.call k__law_drawn_order (.cons (.var 0) (.cons (.var 1) .nil))) (.cons (.call k__law_random (.cons (.var 0) (.cons (.con (.int 5)) .nil))) .nil))) (.cons (.asg (.nm 5) (.lc (.tup (.cons (.ix (.var 3) (.var 6)) (.cons (.ix (.var 3) (.bin .add (.var 6) (.con (.int 1)))) .nil))) (.nm 6) (.rg1 (.bin .sub (.b1 .len (.var 3)) (.con (.int 1)))) .nil [6])) (.cons (.ifs (.cmp .eq (.var 4) (.con (.int 1))) (.cons (.asg (.nm 5) (.bin .add (.var 5) (.lst (.cons (.tup (.cons (.ix (.var 3) (.b1 .neg (.con (.int 1)))) (.cons (.ix (.var 3) (.con (.int 0))) .nil))) .nil)))) .nil) .nil) (.cons (.ifs (.cmp .eq (.var 4) (.con (.int 2))) (.cons (.asg (.nm 5) (.lc (.var 7) (.nm 7) (.val (.var 5)) (.cons (.cmp .ne (.m1 .index (.var 3) (.ix (.var 7) (.con (.int 0)))) (.bin .sub (.bin .fdiv (.b1 .len (.var 3)) (.con (.int 2))) (.con (.int 1)))) .nil) [7])) .nil) .nil) (.cons (.ifs (.cmp .eq (.var 4) (.con (.int 3))) (.cons (.asg (.nm 5) (.bin .add (.var 5) (.lc (.tup (.cons (.ix (.var 7) (.con (.int 1))) (.cons (.ix (.var 7) (.con (.int 0))) .nil))) (.nm 7) (.val (.var 5)) .nil [7]))) .nil) .nil) (.cons (.ifs (.cmp .eq (.var 4) (.con (.int 4))) (.cons (.asg (.nm 5) (.lc (.tup (.cons (.ix (.var 3) (.con (.int 0))) (.cons (.var 8) .nil))) (.nm 8) (.val (.slf (.var 3) (.con (.int 1)))) .nil [8])) .nil) .nil) (.cons (.rtn (.mk (.lc (.bin .add (.tup (.cons (.var 2) .nil)) (.var 7)) (.nm 7) (.val (.var 5)) .nil [7]))) .nil))))))), true⟩
def A__law_world (k__law_spread : Nat) (k__law_random : Nat) (k__law_pick : Nat) (k__law_links : Nat) : Fn := ⟨3, 7, (.cons (.par [3, 4, 5] (.cons (.call k__law_random (.cons (.var 0) (.cons (.con (.int 8)) .nil))) (.cons (.bin .add (.con (.int 2)) (.call k__law_random (.cons (.var 0) (.cons (.con (.int 3)) .nil)))) (.cons (.mk (.lst .nil)) .nil)))) (.cons (.ifs (.cmp .lt (.var 3) (.con (.int 3))) (.cons (.asg (.nm 5) (.b2 .sum (.lc (.call k__law_spread (.cons (.var 0) (.cons (.var 1) (.cons (.var 6) (.cons (.var 4) .nil))))) (.nm 6) (.val (.var 2)) .nil [6]) (.lst .nil))) .nil) (.cons (.ifs (.cmp .lt (.var 3) (.con (.int 7))) (.cons (.asg (.nm 5) (.call k__law_links (.cons (.var 0) (.cons (.var 1) (.cons (.ix (.ix (.var 2) (.con (.int 0))) (.con (.int 0))) .nil))))) (.cons (.ifs (.cmp .gt (.call k__law_random (.cons (.var 0) (.cons (.con (.int 3)) .nil))) (.con (.int 0))) (.cons (.ex (.m1 .append (.var 5) (.tup (.cons (.ix (.ix (.var 2) (.con (.int 1))) (.con (.int 0))) (.cons (.call k__law_pick (.cons (.var 0) (.cons (.var 1) .nil))) .nil))))) .nil) .nil) (.cons (.ifs (.cmp .eq (.call k__law_random (.cons (.var 0) (.cons (.con (.int 4)) .nil))) (.con (.int 0))) (.cons (.asg (.nm 5) (.bin .add (.var 5) (.call k__law_spread (.cons (.var 0) (.cons (.var 1) (.cons (.ix (.var 2) (.con (.int 2))) (.cons (.con (.int 2)) .nil))))))) .nil) .nil) .nil))) .nil) .nil)) (.cons (.rtn (.tup (.cons (.b1 .list (.var 1)) (.cons (.slt (.b1 .sset (.var 5)) (.con (.int 40))) .nil)))) .nil))), false⟩
def A__law_changed (k__law_random : Nat) (k__law_pick : Nat) : Fn := ⟨3, 13, (.cons (.par [3, 4, 5] (.cons (.b1 .list (.ix (.var 1) (.con (.int 0)))) (.cons (.mk (.b1 .list (.ix (.var 1) (.con (.int 1))))) (.cons (.call k__law_random (.cons (.var 0) (.cons (.con (.int 4)) .nil))) .nil)))) (.cons (.ifs (.and (.cons (.cmp .lt (.var 5) (.con (.int 2))) (.cons (.cmp .ne (.var 4) (.lst .nil)) .nil))) (.cons (.ex (.m1 .pop (.var 4) (.call k__law_random (.cons (.var 0) (.cons (.b1 .len (.var 4)) .nil))))) .nil) (.cons (.ifs (.cmp .lt (.var 5) (.con (.int 3))) (.cons (.asg (.tp [6, 7]) (.call k__law_pick (.cons (.var 0) (.cons (.var 2) .nil)))) (.cons (.ex (.m1 .append (.var 4) (.bin .add (.tup (.cons (.var 6) .nil)) (.b1 .tuple (.lc (.call k__law_pick (.cons (.var 0) (.cons (.var 3) .nil))) (.nm 11) (.rg1 (.var 7)) .nil [11]))))) .nil)) (.cons (.par [8, 9] (.cons (.call k__law_pick (.cons (.var 0) (.cons (.var 3) .nil))) (.cons (.call k__law_pick (.cons (.var 0) (.cons (.var 3) .nil))) .nil))) (.cons (.asg (.nm 4) (.bin .add (.var 4) (.lc (.bin .add (.slt (.var 10) (.con (.int 1))) (.b1 .tuple (.lc (.ite (.cmp .eq (.var 12) (.var 8)) (.var 9) (.var 12)) (.nm 12) (.val (.slf (.var 10) (.con (.int 1)))) .nil [12]))) (.nm 10) (.val (.var 4)) .nil [10]))) .nil))) .nil)) (.cons (.rtn (.tup (.cons (.var 3) (.cons (.slt (.b1 .sset (.var 4)) (.con (.int 40))) .nil)))) .nil))), false⟩
def A__law_marks (k__law_random : Nat) (k__law_pick : Nat) : Fn := ⟨3, 5, (.cons (.asg (.nm 3) (.mk (.lc (.call k__law_pick (.cons (.var 0) (.cons (.var 1) .nil))) (.nm 4) (.rg1 (.var 2)) .nil [4]))) (.cons (.ifs (.and (.cons (.cmp .gt (.var 2) (.con (.int 1))) (.cons (.cmp .eq (.call k__law_random (.cons (.var 0) (.cons (.con (.int 3)) .nil))) (.con (.int 0))) .nil))) (.cons (.setI (.var 3) (.con (.int 1)) (.ix (.var 3) (.con (.int 0)))) .nil) .nil) (.cons (.rtn (.var 3)) .nil))), false⟩
def A__law_cases (k__law_marks : Nat) (k__law_random : Nat) (k__law_changed : Nat) (k__law_pick : Nat) (k__law_world : Nat) (k__law_things : Nat) : Fn := ⟨5, 8, (.cons (.asg (.nm 5) (.mk (.lst .nil))) (.cons (.for_ (.nm 6) (.rg1 (.var 1)) (.cons (.ifs (.and (.cons (.cmp .ne (.var 5) (.lst .nil)) (.cons (.cmp .lt (.call k__law_random (.cons (.var 0) (.cons (.con (.int 5)) .nil))) (.con (.int 2))) .nil))) (.cons (.asg (.nm 7) (.call k__law_changed (.cons (.var 0) (.cons (.ix (.call k__law_pick (.cons (.var 0) (.cons (.var 5) .nil))) (.con (.int 0))) (.cons (.var 4) .nil))))) .nil) (.cons (.ifs (.and (.cons (.cmp .ne (.var 5) (.lst .nil)) (.cons (.cmp .eq (.call k__law_random (.cons (.var 0) (.cons (.con (.int 3)) .nil))) (.con (.int 0))) .nil))) (.cons (.asg (.nm 7) (.ix (.call k__law_pick (.cons (.var 0) (.cons (.var 5) .nil))) (.con (.int 0)))) .nil) (.cons (.asg (.nm 7) (.call k__law_world (.cons (.var 0) (.cons (.call k__law_things (.cons (.var 0) (.cons (.bin .add (.con (.int 1)) (.call k__law_random (.cons (.var 0) (.cons (.var 2) .nil)))) .nil))) (.cons (.var 4) .nil))))) .nil)) .nil)) (.cons (.ex (.m1 .append (.var 5) (.tup (.cons (.tup (.cons (.b1 .list (.ix (.var 7) (.con (.int 0)))) (.cons (.b1 .list (.ix (.var 7) (.con (.int 1)))) .nil))) (.cons (.call k__law_marks (.cons (.var 0) (.cons (.ix (.var 7) (.con (.int 0))) (.cons (.var 3) .nil)))) .nil))))) .nil))) (.cons (.rtn (.var 5)) .nil))), true⟩
def A__law_renamed (k__law_drawn_order : Nat) : Fn := ⟨2, 10, (.cons (.asg (.tp [2, 3]) (.var 1)) (.cons (.asg (.nm 4) (.call k__law_drawn_order (.cons (.var 0) (.cons (.ix (.var 2) (.con (.int 0))) .nil)))) (.cons (.asg (.nm 5) (.b1 .dict (.lc (.tup (.cons (.ix (.var 4) (.var 8)) (.cons (.bin .add (.con (.str "t")) (.b1 .str (.var 8))) .nil))) (.nm 8) (.rg1 (.b1 .len (.var 4))) .nil [8]))) (.cons (.asg (.nm 6) (.lc (.bin .add (.slt (.var 7) (.con (.int 1))) (.b1 .tuple (.lc (.ix (.var 5) (.var 9)) (.nm 9) (.val (.slf (.var 7) (.con (.int 1)))) .nil [9]))) (.nm 7) (.val (.ix (.var 2) (.con (.int 1)))) .nil [7])) (.cons (.rtn (.tup (.cons (.tup (.cons (.b1 .svals (.var 5)) (.cons (.b1 .sorted (.var 6)) .nil))) (.cons (.lc (.ix (.var 5) (.var 9)) (.nm 9) (.val (.var 3)) .nil [9]) .nil)))) .nil))))), false⟩
def A__law_drawn_cases (k__law_random : Nat) (k__law_renamed : Nat) (k__law_cases : Nat) (k__law_relations : Nat) : Fn := ⟨4, 8, (.cons (.par [4, 5] (.cons (.call k__law_relations (.cons (.var 0) .nil)) (.cons (.call k__law_random (.cons (.var 0) (.cons (.bin .add (.con (.int 1)) (.b2 .min (.ix (.var 3) (.con (.int 0))) (.con (.int 2)))) .nil))) .nil))) (.cons (.ifs (.and (.cons (.cmp .lt (.var 5) (.ix (.var 3) (.con (.int 0)))) (.cons (.cmp .eq (.call k__law_random (.cons (.var 0) (.cons (.con (.int 2)) .nil))) (.con (.int 0))) .nil))) (.cons (.asg (.nm 5) (.bin .add (.var 5) (.con (.int 1)))) .nil) .nil) (.cons (.asg (.nm 6) (.call k__law_cases (.cons (.var 0) (.cons (.var 1) (.cons (.ite (.cmp .lt (.ix (.var 3) (.con (.int 1))) (.con (.int 3))) (.var 2) (.b2 .min (.var 2) (.con (.int 3)))) (.cons (.var 5) (.cons (.var 4) .nil))))))) (.cons (.for_ (.nm 7) (.rg2 (.con (.int 1)) (.var 1)) (.cons (.ifs (.cmp .eq (.call k__law_random (.cons (.var 0) (.cons (.con (.int 7)) .nil))) (.con (.int 0))) (.cons (.setI (.var 6) (.var 7) (.call k__law_renamed (.cons (.var 0) (.cons (.ix (.var 6) (.bin .sub (.var 7) (.con (.int 1)))) .nil)))) .nil) .nil) .nil)) (.cons (.rtn (.tup (.cons (.var 6) (.cons (.var 4) (.cons (.var 5) .nil))))) .nil))))), false⟩
def A__law_is : Fn := ⟨2, 2, (.cons (.rtn (.ite (.var 1) (.cmp .is (.var 0) (.con (.bool true))) (.cmp .is (.var 0) (.con (.bool false))))) .nil), false⟩
def A__law_due_word : Fn := ⟨2, 5, (.cons (.asg (.tp [2, 3]) (.tup (.cons (.con (.str "abcdefghijklmnopqrstuvwxyz")) (.cons (.con (.str "0123456789")) .nil)))) (.cons (.ifs (.or (.cons (.not (.isi (.var 0) .tstr)) (.cons (.cmp .lt (.b1 .len (.var 0)) (.con (.int 1))) (.cons (.cmp .gt (.b1 .len (.var 0)) (.con (.int 8))) (.cons (.cmp .lt (.m1 .find (.var 1) (.ix (.var 0) (.con (.int 0)))) (.con (.int 0))) .nil))))) (.cons (.rtn (.con (.bool false))) .nil) .nil) (.cons (.rtn (.cmp .eq (.lc (.var 4) (.nm 4) (.val (.slf (.var 0) (.con (.int 1)))) (.cons (.cmp .lt (.m1 .find (.bin .add (.var 2) (.var 3)) (.var 4)) (.con (.int 0))) .nil) [4]) (.lst .nil))) .nil))), false⟩
def A__law_due_name (k__law_due_word : Nat) : Fn := ⟨1, 1, (.cons (.rtn (.call k__law_due_word (.cons (.var 0) (.cons (.con (.str "abcdefghijklmnopqrstuvwxyz")) .nil)))) .nil), false⟩
def A__law_due_fact (k__law_due_name : Nat) (k__law_due_word : Nat) : Fn := ⟨1, 2, (.cons (.ifs (.or (.cons (.not (.isi (.var 0) .ttuple)) (.cons (.cmp .lt (.b1 .len (.var 0)) (.con (.int 1))) (.cons (.cmp .gt (.b1 .len (.var 0)) (.con (.int 4))) .nil)))) (.cons (.rtn (.con (.bool false))) .nil) .nil) (.cons (.ifs (.and (.cons (.not (.call k__law_due_name (.cons (.ix (.var 0) (.con (.int 0))) .nil))) (.cons (.not (.call k__law_due_word (.cons (.ix (.var 0) (.con (.int 0))) (.cons (.con (.str "ABCDEFGHIJKLMNOPQRSTUVWXYZ")) .nil)))) .nil))) (.cons (.rtn (.con (.bool false))) .nil) .nil) (.cons (.rtn (.cmp .eq (.lc (.var 1) (.nm 1) (.val (.slf (.var 0) (.con (.int 1)))) (.cons (.not (.call k__law_due_name (.cons (.var 1) .nil))) .nil) [1]) (.lst .nil))) .nil))), false⟩
def A__law_up : Fn := ⟨1, 2, (.cons (.rtn (.cmp .eq (.lc (.var 1) (.nm 1) (.rg2 (.con (.int 1)) (.b1 .len (.var 0))) (.cons (.not (.cmp .lt (.ix (.var 0) (.bin .sub (.var 1) (.con (.int 1)))) (.ix (.var 0) (.var 1)))) .nil) [1]) (.lst .nil))) .nil), false⟩
def A__law_due_world (k__law_up : Nat) (k__law_due_fact : Nat) (k__law_due_name : Nat) : Fn := ⟨1, 6, (.cons (.ifs (.or (.cons (.not (.isi (.var 0) .ttuple)) (.cons (.cmp .ne (.b1 .len (.var 0)) (.con (.int 2))) (.cons (.not (.isi (.ix (.var 0) (.con (.int 0))) .tlist)) (.cons (.not (.isi (.ix (.var 0) (.con (.int 1))) .tlist)) .nil))))) (.cons (.rtn (.con (.bool false))) .nil) .nil) (.cons (.asg (.tp [1, 2]) (.var 0)) (.cons (.ifs (.or (.cons (.cmp .lt (.b1 .len (.var 1)) (.con (.int 1))) (.cons (.cmp .gt (.b1 .len (.var 1)) (.con (.int 8))) (.cons (.cmp .ne (.lc (.var 4) (.nm 4) (.val (.var 1)) (.cons (.not (.call k__law_due_name (.cons (.var 4) .nil))) .nil) [4]) (.lst .nil)) (.cons (.not (.call k__law_up (.cons (.var 1) .nil))) .nil))))) (.cons (.rtn (.con (.bool false))) .nil) .nil) (.cons (.ifs (.cmp .ne (.lc (.var 3) (.nm 3) (.val (.var 2)) (.cons (.or (.cons (.not (.call k__law_due_fact (.cons (.var 3) .nil))) (.cons (.not (.call k__law_due_name (.cons (.ix (.var 3) (.con (.int 0))) .nil))) (.cons (.cmp .ne (.lc (.var 5) (.nm 5) (.val (.slf (.var 3) (.con (.int 1)))) (.cons (.cmp .notin (.var 5) (.var 1)) .nil) [5]) (.lst .nil)) .nil)))) .nil) [3]) (.lst .nil)) (.cons (.rtn (.con (.bool false))) .nil) .nil) (.cons (.rtn (.call k__law_up (.cons (.var 2) .nil))) .nil))))), false⟩
def A__law_sign (k__law_random : Nat) : Fn := ⟨1, 3, (.cons (.asg (.nm 1) (.lst (.cons (.con (.str "abcdefghijklmnopqrstuvwxyz")) (.cons (.con (.str "0123456789")) (.cons (.con (.str "ABCDEFGHIJKLMNOPQRSTUVWXYZ")) (.cons (.con (.str "_ -.:,;()[]{}~!?/+*<>=&#@^|'")) .nil)))))) (.cons (.asg (.nm 2) (.ix (.var 1) (.ix (.lst (.cons (.con (.int 0)) (.cons (.con (.int 0)) (.cons (.con (.int 0)) (.cons (.con (.int 1)) (.cons (.con (.int 1)) (.cons (.con (.int 2)) (.cons (.con (.int 3)) .nil)))))))) (.call k__law_random (.cons (.var 0) (.cons (.con (.int 7)) .nil)))))) (.cons (.rtn (.ix (.var 2) (.call k__law_random (.cons (.var 0) (.cons (.b1 .len (.var 2)) .nil))))) .nil))), false⟩
def A__law_text (k__law_random : Nat) (k__law_sign : Nat) : Fn := ⟨1, 4, (.cons (.asg (.nm 1) (.call k__law_random (.cons (.var 0) (.cons (.con (.int 5)) .nil)))) (.cons (.ifs (.cmp .eq (.var 1) (.con (.int 0))) (.cons (.rtn (.m1 .join (.con (.str "")) (.lc (.call k__law_sign (.cons (.var 0) .nil)) (.nm 3) (.rg1 (.call k__law_random (.cons (.var 0) (.cons (.con (.int 11)) .nil)))) .nil [3]))) .nil) .nil) (.cons (.asg (.nm 2) (.ite (.cmp .lt (.var 1) (.con (.int 4))) (.ix (.con (.str "abcdefghijklmnopqrstuvwxyz")) (.call k__law_random (.cons (.var 0) (.cons (.con (.int 26)) .nil)))) (.ix (.con (.str "ABCDEFGHIJKLMNOPQRSTUVWXYZ")) (.call k__law_random (.cons (.var 0) (.cons (.con (.int 26)) .nil)))))) (.cons (.for_ (.nm 3) (.rg1 (.call k__law_random (.cons (.var 0) (.cons (.con (.int 9)) .nil)))) (.cons (.asg (.nm 2) (.bin .add (.var 2) (.ix (.con (.str "abcdefghijklmnopqrstuvwxyz0123456789")) (.call k__law_random (.cons (.var 0) (.cons (.con (.int 36)) .nil)))))) .nil)) (.cons (.rtn (.var 2)) .nil))))), false⟩
def A__law_words_right_x1 (k__law_is : Nat) (k_is_fact : Nat) (k__law_due_fact : Nat) (k_is_name : Nat) (k__law_due_name : Nat) (k_is_derived_name : Nat) (k__law_due_word : Nat) (k__law_text : Nat) : Exs := (.cons (.tup (.cons (.con (.str "e")) (.cons (.con (.str "a")) (.cons (.con (.str "a")) (.cons (.con (.str "a")) (.cons (.con (.str "a")) .nil)))))) (.cons (.lst (.cons (.con (.str "e")) (.cons (.con (.str "a")) .nil))) (.cons (.con (.str "e")) (.cons (.tup (.cons (.con (.str "e")) (.cons (.tup (.cons (.con (.str "a")) .nil)) .nil))) (.cons (.tup (.cons (.con (.str "E")) .nil)) (.cons (.tup (.cons (.con (.str "e")) (.cons (.con (.str "A")) .nil))) .nil))))))
def A__law_words_right_x2 (k__law_is : Nat) (k_is_fact : Nat) (k__law_due_fact : Nat) (k_is_name : Nat) (k__law_due_name : Nat) (k_is_derived_name : Nat) (k__law_due_word : Nat) (k__law_text : Nat) : Sms := (.cons (.asg (.nm 4) (.bin .add (.var 2) (.lst (.cons (.tup .nil) (.cons (.tup (.cons (.con (.str "e")) (.cons (.con (.str "a")) (.cons (.con (.str "a")) (.cons (.con (.str "a")) .nil))))) (A__law_words_right_x1 k__law_is k_is_fact k__law_due_fact k_is_name k__law_due_name k_is_derived_name k__law_due_word k__law_text)))))) (.cons (.rtn (.cmp .eq (.lc (.var 3) (.nm 3) (.val (.var 4)) (.cons (.not (.call k__law_is (.cons (.call k_is_fact (.cons (.var 3) .nil)) (.cons (.call k__law_due_fact (.cons (.var 3) .nil)) .nil)))) .nil) [3]) (.lst .nil))) .nil))
def A__law_words_right_x3 (k__law_is : Nat) (k_is_fact : Nat) (k__law_due_fact : Nat) (k_is_name : Nat) (k__law_due_name : Nat) (k_is_derived_name : Nat) (k__law_due_word : Nat) (k__law_text : Nat) : Exs := (.cons (.tup (.cons (.var 3) .nil)) (.cons (.tup (.cons (.var 3) (.cons (.con (.str "a")) .nil))) (.cons (.tup (.cons (.con (.str "edge")) (.cons (.var 3) .nil))) (.cons (.tup (.cons (.con (.str "Edge")) (.cons (.con (.str "a")) (.cons (.con (.str "b")) (.cons (.var 3) .nil))))) (.cons (.tup (.cons (.con (.str "e")) (.cons (.con (.str "a")) (.cons (.con (.str "a")) (.cons (.con (.str "a")) (.cons (.var 3) .nil)))))) .nil)))))
def A__law_words_right_x4 (k__law_is : Nat) (k_is_fact : Nat) (k__law_due_fact : Nat) (k_is_name : Nat) (k__law_due_name : Nat) (k_is_derived_name : Nat) (k__law_due_word : Nat) (k__law_text : Nat) : Sms := (.cons (.ifs (.or (.cons (.not (.call k__law_is (.cons (.call k_is_name (.cons (.var 3) .nil)) (.cons (.call k__law_due_name (.cons (.var 3) .nil)) .nil)))) (.cons (.not (.call k__law_is (.cons (.call k_is_derived_name (.cons (.var 3) .nil)) (.cons (.call k__law_due_word (.cons (.var 3) (.cons (.con (.str "ABCDEFGHIJKLMNOPQRSTUVWXYZ")) .nil))) .nil)))) .nil))) (.cons (.rtn (.con (.bool false))) .nil) .nil) (.cons (.for_ (.nm 5) (.val (.lst (A__law_words_right_x3 k__law_is k_is_fact k__law_due_fact k_is_name k__law_due_name k_is_derived_name k__law_due_word k__law_text))) (.cons (.ifs (.not (.call k__law_is (.cons (.call k_is_fact (.cons (.var 5) .nil)) (.cons (.call k__law_due_fact (.cons (.var 5) .nil)) .nil)))) (.cons (.rtn (.con (.bool false))) .nil) .nil) .nil)) .nil))
def A__law_words_right_x5 (k__law_is : Nat) (k_is_fact : Nat) (k__law_due_fact : Nat) (k_is_name : Nat) (k__law_due_name : Nat) (k_is_derived_name : Nat) (k__law_due_word : Nat) (k__law_text : Nat) : Sms := (.cons (.ifs (.or (.cons (.not (.call k__law_is (.cons (.callk k_is_name (.cons (.var 3) .nil) [0]) (.cons (.call k__law_due_name (.cons (.var 3) .nil)) .nil)))) (.cons (.not (.call k__law_is (.cons (.callk k_is_fact (.cons (.tup (.cons (.var 3) .nil)) .nil) [0]) (.cons (.call k__law_due_fact (.cons (.tup (.cons (.var 3) .nil)) .nil)) .nil)))) .nil))) (.cons (.rtn (.con (.bool false))) .nil) .nil) (.cons (.ifs (.not (.call k__law_is (.cons (.callk k_is_derived_name (.cons (.var 3) .nil) [0]) (.cons (.call k__law_due_word (.cons (.var 3) (.cons (.con (.str "ABCDEFGHIJKLMNOPQRSTUVWXYZ")) .nil))) .nil)))) (.cons (.rtn (.con (.bool false))) .nil) .nil) (A__law_words_right_x4 k__law_is k_is_fact k__law_due_fact k_is_name k__law_due_name k_is_derived_name k__law_due_word k__law_text)))
def A__law_words_right_x6 (k__law_is : Nat) (k_is_fact : Nat) (k__law_due_fact : Nat) (k_is_name : Nat) (k__law_due_name : Nat) (k_is_derived_name : Nat) (k__law_due_word : Nat) (k__law_text : Nat) : Sms := (.cons (.asg (.nm 2) (.lst (.cons (.con .none) (.cons (.con (.bool true)) (.cons (.con (.int 7)) (.cons (.tup .nil) (.cons (.lst .nil) (.cons (.tup (.cons (.con (.str "a")) .nil)) (.cons (.lst (.cons (.con (.str "a")) .nil)) (.cons (.dd (.cons (.con (.str "a")) (.cons (.con (.int 1)) .nil))) .nil)))))))))) (.cons (.for_ (.nm 3) (.val (.bin .add (.var 1) (.var 2))) (A__law_words_right_x5 k__law_is k_is_fact k__law_due_fact k_is_name k__law_due_name k_is_derived_name k__law_due_word k__law_text)) (A__law_words_right_x2 k__law_is k_is_fact k__law_due_fact k_is_name k__law_due_name k_is_derived_name k__law_due_word k__law_text)))
def A__law_words_right_x7 (k__law_is : Nat) (k_is_fact : Nat) (k__law_due_fact : Nat) (k_is_name : Nat) (k__law_due_name : Nat) (k_is_derived_name : Nat) (k__law_due_word : Nat) (k__law_text : Nat) : Ex := (.bin .add (.lc (.call k__law_text (.cons (.var 0) .nil)) (.nm 6) (.rg1 (.con (.int 8))) .nil [6]) (.lst (.cons (.con (.str "")) (.cons (.con (.str "a")) (.cons (.con (.str "A")) (.cons (.con (.str "0")) (.cons (.con (.str "a0")) (.cons (.con (.str "a01")) (.cons (.con (.str "abcdefgh")) (.cons (.con (.str "abcdefghi")) (.cons (.con (.str "Abcdefgh")) (.cons (.con (.str "Abcdefghi")) .nil))))))))))))
def A__law_words_right_x8 (k__law_is : Nat) (k_is_fact : Nat) (k__law_due_fact : Nat) (k_is_name : Nat) (k__law_due_name : Nat) (k_is_derived_name : Nat) (k__law_due_word : Nat) (k__law_text : Nat) : Sms := (.cons (.asg (.nm 1) (A__law_words_right_x7 k__law_is k_is_fact k__law_due_fact k_is_name k__law_due_name k_is_derived_name k__law_due_word k__law_text)) (.cons (.asg (.nm 1) (.bin .add (.var 1) (.lst (.cons (.con (.str "aB")) (.cons (.con (.str "AB")) (.cons (.con (.str "Goal")) (.cons (.con (.str "goal")) (.cons (.con (.str "a b")) (.cons (.con (.str " a")) (.cons (.con (.str "a\n")) .nil)))))))))) (A__law_words_right_x6 k__law_is k_is_fact k__law_due_fact k_is_name k__law_due_name k_is_derived_name k__law_due_word k__law_text)))
def A__law_words_right (k__law_is : Nat) (k_is_fact : Nat) (k__law_due_fact : Nat) (k_is_name : Nat) (k__law_due_name : Nat) (k_is_derived_name : Nat) (k__law_due_word : Nat) (k__law_text : Nat) : Fn := ⟨1, 7, (A__law_words_right_x8 k__law_is k_is_fact k__law_due_fact k_is_name k__law_due_name k_is_derived_name k__law_due_word k__law_text), false⟩
def A__law_worlds_right_x1 (k__law_is : Nat) (k_is_world : Nat) (k__law_due_world : Nat) (k__law_text : Nat) (k__law_drawn_cases : Nat) : Sms := (.cons (.ifs (.cmp .ne (.lc (.var 13) (.nm 13) (.val (.var 6)) (.cons (.not (.call k__law_is (.cons (.callk k_is_world (.cons (.var 13) .nil) [0]) (.cons (.call k__law_due_world (.cons (.var 13) .nil)) .nil)))) .nil) [13]) (.lst .nil)) (.cons (.rtn (.con (.bool false))) .nil) .nil) (.cons (.rtn (.and (.cons (.cmp .eq (.lc (.var 13) (.nm 13) (.val (.var 6)) (.cons (.not (.call k__law_is (.cons (.call k_is_world (.cons (.var 13) .nil)) (.cons (.call k__law_due_world (.cons (.var 13) .nil)) .nil)))) .nil) [13]) (.lst .nil)) (.cons (.cmp .eq (.b1 .repr (.var 6)) (.var 11)) .nil)))) .nil))
def A__law_worlds_right_x2 (k__law_is : Nat) (k_is_world : Nat) (k__law_due_world : Nat) (k__law_text : Nat) (k__law_drawn_cases : Nat) : Sms := (.cons (.asg (.nm 6) (.bin .add (.var 6) (.lst (.cons (.tup (.cons (.var 9) (.cons (.slt (.var 10) (.con (.int 40))) .nil))) (.cons (.tup (.cons (.var 9) (.cons (.slt (.var 10) (.con (.int 41))) .nil))) (.cons (.tup (.cons (.var 9) (.cons (.var 10) .nil))) (.cons (.tup (.cons (.bin .add (.var 9) (.lst (.cons (.con (.str "i")) .nil))) (.cons (.var 10) .nil))) .nil))))))) (.cons (.asg (.nm 11) (.b1 .repr (.var 6))) (A__law_worlds_right_x1 k__law_is k_is_world k__law_due_world k__law_text k__law_drawn_cases)))
def A__law_worlds_right_x3 (k__law_is : Nat) (k_is_world : Nat) (k__law_due_world : Nat) (k__law_text : Nat) (k__law_drawn_cases : Nat) : Sms := (.cons (.asg (.nm 9) (.lst (.cons (.con (.str "a")) (.cons (.con (.str "b")) (.cons (.con (.str "c")) (.cons (.con (.str "d")) (.cons (.con (.str "e")) (.cons (.con (.str "f")) (.cons (.con (.str "g")) (.cons (.con (.str "h")) .nil)))))))))) (.cons (.asg (.nm 10) (.b2 .sum (.lc (.lc (.tup (.cons (.con (.str "edge")) (.cons (.var 12) (.cons (.var 14) .nil)))) (.nm 14) (.val (.var 9)) .nil [14]) (.nm 12) (.val (.var 9)) .nil [12]) (.lst .nil))) (A__law_worlds_right_x2 k__law_is k_is_world k__law_due_world k__law_text k__law_drawn_cases)))
def A__law_worlds_right_x4 (k__law_is : Nat) (k_is_world : Nat) (k__law_due_world : Nat) (k__law_text : Nat) (k__law_drawn_cases : Nat) : Exs := (.cons (.tup (.cons (.lst (.cons (.lst (.cons (.con (.str "a")) .nil)) .nil)) (.cons (.lst .nil) .nil))) (.cons (.tup (.cons (.lst (.cons (.con (.str "a")) (.cons (.con .none) .nil))) (.cons (.lst .nil) .nil))) (.cons (.tup (.cons (.lst (.cons (.tup (.cons (.con (.str "a")) .nil)) .nil)) (.cons (.lst .nil) .nil))) (.cons (.tup (.cons (.lst (.cons (.con (.bool true)) .nil)) (.cons (.lst .nil) .nil))) (.cons (.tup (.cons (.lst (.cons (.con (.str "a\n")) .nil)) (.cons (.lst .nil) .nil))) .nil)))))
def A__law_worlds_right_x5 (k__law_is : Nat) (k_is_world : Nat) (k__law_due_world : Nat) (k__law_text : Nat) (k__law_drawn_cases : Nat) : Exs := (.cons (.tup (.cons (.lst (.cons (.con (.str "A")) .nil)) (.cons (.lst .nil) .nil))) (.cons (.tup (.cons (.lst (.cons (.con (.int 7)) .nil)) (.cons (.lst .nil) .nil))) (.cons (.tup (.cons (.lst (.cons (.con (.str "abcdefghi")) .nil)) (.cons (.lst .nil) .nil))) (.cons (.tup (.cons (.lst (.cons (.con (.str "")) .nil)) (.cons (.lst .nil) .nil))) (A__law_worlds_right_x4 k__law_is k_is_world k__law_due_world k__law_text k__law_drawn_cases)))))
def A__law_worlds_right_x6 (k__law_is : Nat) (k_is_world : Nat) (k__law_due_world : Nat) (k__law_text : Nat) (k__law_drawn_cases : Nat) : Sms := (.cons (.for_ (.nm 8) (.val (.var 7)) (.cons (.asg (.nm 6) (.bin .add (.var 6) (.lst (.cons (.tup (.cons (.var 4) (.cons (.lst (.cons (.var 8) .nil)) .nil))) (.cons (.tup (.cons (.var 4) (.cons (.bin .add (.var 5) (.lst (.cons (.var 8) .nil))) .nil))) .nil))))) .nil)) (.cons (.asg (.nm 6) (.bin .add (.var 6) (.lst (A__law_worlds_right_x5 k__law_is k_is_world k__law_due_world k__law_text k__law_drawn_cases)))) (A__law_worlds_right_x3 k__law_is k_is_world k__law_due_world k__law_text k__law_drawn_cases)))
def A__law_worlds_right_x7 (k__law_is : Nat) (k_is_world : Nat) (k__law_due_world : Nat) (k__law_text : Nat) (k__law_drawn_cases : Nat) : Exs := (.cons (.lst (.cons (.con (.str "edge")) (.cons (.ix (.var 4) (.con (.int 0))) .nil))) (.cons (.bin .add (.tup (.cons (.con (.str "edge")) .nil)) (.b1 .tuple (.bin .mul (.slt (.var 4) (.con (.int 1))) (.con (.int 4))))) (.cons (.bin .add (.tup (.cons (.con (.str "edge")) .nil)) (.b1 .tuple (.bin .mul (.slt (.var 4) (.con (.int 1))) (.con (.int 3))))) (.cons (.tup .nil) (.cons (.con .none) (.cons (.call k__law_text (.cons (.var 0) .nil)) .nil))))))
def A__law_worlds_right_x8 (k__law_is : Nat) (k_is_world : Nat) (k__law_due_world : Nat) (k__law_text : Nat) (k__law_drawn_cases : Nat) : Sms := (.cons (.asg (.nm 7) (.lst (.cons (.tup (.cons (.con (.str "Edge")) (.cons (.ix (.var 4) (.con (.int 0))) .nil))) (.cons (.tup (.cons (.con (.str "edge")) (.cons (.con (.str "zzz")) .nil))) (.cons (.tup (.cons (.con (.str "edge")) (.cons (.con (.int 7)) .nil))) (A__law_worlds_right_x7 k__law_is k_is_world k__law_due_world k__law_text k__law_drawn_cases)))))) (A__law_worlds_right_x6 k__law_is k_is_world k__law_due_world k__law_text k__law_drawn_cases))
def A__law_worlds_right_x9 (k__law_is : Nat) (k_is_world : Nat) (k__law_due_world : Nat) (k__law_text : Nat) (k__law_drawn_cases : Nat) : Ex := (.lst (.cons (.tup (.cons (.bin .add (.var 4) (.lc (.bin .add (.con (.str "zz")) (.b1 .str (.var 15))) (.nm 15) (.rg1 (.bin .sub (.con (.int 8)) (.b1 .len (.var 4)))) .nil [15])) (.cons (.var 5) .nil))) (.cons (.tup (.cons (.bin .add (.var 4) (.lc (.bin .add (.con (.str "zz")) (.b1 .str (.var 15))) (.nm 15) (.rg1 (.bin .sub (.con (.int 9)) (.b1 .len (.var 4)))) .nil [15])) (.cons (.var 5) .nil))) .nil)))
def A__law_worlds_right_x10 (k__law_is : Nat) (k_is_world : Nat) (k__law_due_world : Nat) (k__law_text : Nat) (k__law_drawn_cases : Nat) : Sms := (.cons (.asg (.nm 6) (.bin .add (.var 6) (.lst (.cons (.tup (.cons (.var 4) (.cons (.var 5) (.cons (.lst .nil) .nil)))) (.cons (.tup (.cons (.var 4) (.cons (.con .none) .nil))) (.cons (.tup (.cons (.con .none) (.cons (.var 5) .nil))) (.cons (.dd .nil) (.cons (.con .none) .nil)))))))) (.cons (.asg (.nm 6) (.bin .add (.var 6) (A__law_worlds_right_x9 k__law_is k_is_world k__law_due_world k__law_text k__law_drawn_cases))) (A__law_worlds_right_x8 k__law_is k_is_world k__law_due_world k__law_text k__law_drawn_cases)))
def A__law_worlds_right_x11 (k__law_is : Nat) (k_is_world : Nat) (k__law_due_world : Nat) (k__law_text : Nat) (k__law_drawn_cases : Nat) : Exs := (.cons (.tup (.cons (.slf (.var 4) (.con (.int 1))) (.cons (.var 5) .nil))) (.cons (.tup (.cons (.lst .nil) (.cons (.lst .nil) .nil))) (.cons (.tup (.cons (.var 4) (.cons (.lst .nil) .nil))) (.cons (.tup (.cons (.b1 .tuple (.var 4)) (.cons (.var 5) .nil))) (.cons (.tup (.cons (.var 4) (.cons (.b1 .tuple (.var 5)) .nil))) (.cons (.lst (.cons (.var 4) (.cons (.var 5) .nil))) (.cons (.tup (.cons (.var 4) .nil)) .nil)))))))
def A__law_worlds_right_x12 (k__law_is : Nat) (k_is_world : Nat) (k__law_due_world : Nat) (k__law_text : Nat) (k__law_drawn_cases : Nat) : Sms := (.cons (.asg (.nm 6) (.bin .add (.var 6) (.lst (.cons (.tup (.cons (.var 4) (.cons (.ix (.ix (.ix (.var 1) (.con (.int 1))) (.con (.int 0))) (.con (.int 1))) .nil))) (.cons (.tup (.cons (.ix (.ix (.ix (.var 1) (.con (.int 1))) (.con (.int 0))) (.con (.int 0))) (.cons (.var 5) .nil))) .nil))))) (.cons (.asg (.nm 6) (.bin .add (.var 6) (.lst (A__law_worlds_right_x11 k__law_is k_is_world k__law_due_world k__law_text k__law_drawn_cases)))) (A__law_worlds_right_x10 k__law_is k_is_world k__law_due_world k__law_text k__law_drawn_cases)))
def A__law_worlds_right_x13 (k__law_is : Nat) (k_is_world : Nat) (k__law_due_world : Nat) (k__law_text : Nat) (k__law_drawn_cases : Nat) : Exs := (.cons (.ix (.ix (.var 1) (.con (.int 0))) (.con (.int 0))) (.cons (.ix (.ix (.var 1) (.con (.int 1))) (.con (.int 0))) (.cons (.tup (.cons (.rev (.var 4)) (.cons (.var 5) .nil))) (.cons (.tup (.cons (.var 4) (.cons (.rev (.var 5)) .nil))) (.cons (.tup (.cons (.var 4) (.cons (.bin .add (.var 5) (.slt (.var 5) (.con (.int 1)))) .nil))) (.cons (.tup (.cons (.bin .add (.var 4) (.slt (.var 4) (.con (.int 1)))) (.cons (.var 5) .nil))) .nil))))))
def A__law_worlds_right_x14 (k__law_is : Nat) (k_is_world : Nat) (k__law_due_world : Nat) (k__law_text : Nat) (k__law_drawn_cases : Nat) : Sms := (.cons (.asg (.tp [1, 2, 3]) (.call k__law_drawn_cases (.cons (.var 0) (.cons (.con (.int 2)) (.cons (.con (.int 4)) (.cons (.tup (.cons (.con (.int 2)) (.cons (.con (.int 2)) .nil))) .nil)))))) (.cons (.asg (.tp [4, 5]) (.ix (.ix (.var 1) (.con (.int 0))) (.con (.int 0)))) (.cons (.asg (.nm 6) (.lst (A__law_worlds_right_x13 k__law_is k_is_world k__law_due_world k__law_text k__law_drawn_cases))) (A__law_worlds_right_x12 k__law_is k_is_world k__law_due_world k__law_text k__law_drawn_cases))))
def A__law_worlds_right (k__law_is : Nat) (k_is_world : Nat) (k__law_due_world : Nat) (k__law_text : Nat) (k__law_drawn_cases : Nat) : Fn := ⟨1, 16, (A__law_worlds_right_x14 k__law_is k_is_world k__law_due_world k__law_text k__law_drawn_cases), false⟩
def A_law (k__law_words_right : Nat) (k__law_generator : Nat) (k__law_worlds_right : Nat) : Fn := ⟨1, 2, (.cons (.for_ (.nm 1) (.rg1 (.con (.int 2))) (.cons (.ifs (.or (.cons (.not (.call k__law_words_right (.cons (.call k__law_generator (.cons (.var 0) (.cons (.var 1) .nil))) .nil))) (.cons (.not (.call k__law_worlds_right (.cons (.call k__law_generator (.cons (.var 0) (.cons (.var 1) .nil))) .nil))) .nil))) (.cons (.rtn (.con (.bool false))) .nil) .nil) .nil)) (.cons (.rtn (.con (.bool true))) .nil)), false⟩
end Gd
end
section
set_option autoImplicit false
set_option linter.all false
set_option maxRecDepth 100000
set_option maxHeartbeats 1000000
/-! Gs0: a generator's cell beside what is local; the draws. -/
namespace Gs
open PySem Mp Mp.Ww Gd
/-! ### the store: what was, the generator at i, the local cells -/
@[irreducible] def cfg (S : Store) (i : Nat) (g : List PyData) (L : Store) : Store := S.set i (some (.l g)) ++ L
section
variable {S L L0 : Store} {i : Nat} {g g' g0 : List PyData}
theorem cfg_eq : cfg S i g L = S.set i (some (.l g)) ++ L := by unfold cfg; rfl
theorem cfg_push {M : Store} : cfg S i g L ++ M = cfg S i g (L ++ M) := by rw [cfg_eq, cfg_eq, List.append_assoc]
theorem cfg_len : (cfg S i g L).length = S.length + L.length := by rw [cfg_eq]; simp
theorem cfg_set (hi : i < S.length) : (cfg S i g L).set i (some (.l g')) = cfg S i g' L := by
  rw [cfg_eq, cfg_eq, List.set_append_left _ _ (by simpa using hi), List.set_set]
theorem cfg_setloc {o : Option Ob} : (cfg S i g L).set (cfg S i g0 L0).length o = cfg S i g (L.set L0.length o) := by
  rw [cfg_len, cfg_eq, cfg_eq, List.set_append_right _ _ (by simp)]
  congr 2
  simp
theorem cfg_gen (hi : i < S.length) : (cfg S i g L)[i]? = some (some (.l g)) := by
  rw [cfg_eq, List.getElem?_append_left (by simpa using hi), List.getElem?_set_self hi]
theorem cfg_loc {b : Ob} (h : L[L0.length]? = some (some b)) : (cfg S i g L)[(cfg S i g0 L0).length]? = some (some b) := by
  rw [cfg_len, cfg_eq, List.getElem?_append_right (by simp)]
  simpa using h
theorem cfg_take : (cfg S i g L).take S.length = S.set i (some (.l g)) := by
  rw [cfg_eq, List.take_append_of_le_length (by simp)]
  rw [List.take_of_length_le (by simp)]
theorem cfg_start (h : S[i]? = some (some (.l g))) : S = cfg S i g [] := by
  rw [cfg_eq, List.append_nil]
  obtain ⟨hi, e⟩ := List.getElem?_eq_some_iff.mp h
  rw [← e, List.set_getElem_self]
end
/-! ### a generator -/
/-- a generator that was asked at most so often -/
def GenOk (b : Nat) (g : List PyData) : Prop := ∃ a s c : Int, g = [.int a, .int s, .int c] ∧ (0 ≤ a ∧ a < 2 ^ 2000) ∧ (0 ≤ s ∧ s < 2147483647) ∧ 0 ≤ c ∧ c ≤ b
theorem GenOk.le {b b' : Nat} {g : List PyData} (h : GenOk b g) (l : b ≤ b') : GenOk b' g := by
  obtain ⟨a, s, c, e, h1, h2, h3, h4⟩ := h
  exact ⟨a, s, c, e, h1, h2, h3, by omega⟩
/-- the most that is ever asked -/
abbrev most : Nat := 2 ^ 500
/-- a call with a generator: it ends, the generator alone is another -/
def GW (F : List Val → M Val) (vs : List Val) (K : Nat) (P : Val → Prop) : Prop :=
  ∀ (S : Store) (i : Nat) (g : List PyData) (b : Nat), S[i]? = some (some (.l g)) → GenOk b g → b + K ≤ most → ∃ v g', F (.c i :: vs) S = .ok v (S.set i (some (.l g'))) ∧ GenOk (b + K) g' ∧ P v
theorem GW.mono {F : List Val → M Val} {vs : List Val} {K K' : Nat} {P P' : Val → Prop} (h : GW F vs K P) (l : K ≤ K') (hp : ∀ v, P v → P' v) : GW F vs K' P' := by
  intro S i g b hg ok hb
  obtain ⟨v, g', e, ok', p⟩ := h S i g b hg ok (by omega)
  exact ⟨v, g', e, ok'.le (by omega), hp v p⟩
section
variable {Γ : Nat → List Val → M Val} {gl : List PyData} {X : XT}
theorem GW.call {k : Nat} {vs : List Val} {K b : Nat} {P : Val → Prop} {S L : Store} {i : Nat} {g : List PyData} {Q : Val → Store → Prop} (h : GW (Γ k) vs K P) (ok : GenOk b g) (hi : i < S.length) (hb : b + K ≤ most)
    (q : ∀ v g', GenOk (b + K) g' → P v → Q v (cfg S i g' L)) : Wp (Γ k (.c i :: vs)) Q X (cfg S i g L) := by
  obtain ⟨v, g', e, ok', p⟩ := h (cfg S i g L) i g b (cfg_gen hi) ok hb
  rw [cfg_set hi] at e
  exact Wp.of e (q v g' ok' p)
/-- how a def with a generator ends -/
structure EndG (S : Store) (i b K : Nat) (P : Val → Prop) (v : Val) (T : Store) : Prop where
  go : ∃ g', T = S.set i (some (.l g')) ∧ GenOk (b + K) g' ∧ P v
theorem EndG_eq (S : Store) (i b K : Nat) (P : Val → Prop) (v : Val) (T : Store) : EndG S i b K P v T = ∃ g', T = S.set i (some (.l g')) ∧ GenOk (b + K) g' ∧ P v := propext ⟨fun h => h.go, fun h => ⟨h⟩⟩
theorem GW.run {fn : Fn} {vs : List Val} {K : Nat} {P : Val → Prop} (hl : (Val.c 0 :: vs).length = fn.np)
    (h : ∀ (S : Store) (i : Nat) (g : List PyData) (b : Nat), i < S.length → GenOk b g → b + K ≤ most → XSs Γ gl nx fn.body ((Val.c i :: vs).map some ++ List.replicate (fn.ns - fn.np) none) (endX S fn.raw (EndG S i b K P)) (cfg S i g [])) : GW (fn.run Γ gl) vs K P := by
  intro S i g b hg ok hb
  have hi : i < S.length := (List.getElem?_eq_some_iff.mp hg).1
  have q := h S i g b hi ok hb
  rw [← cfg_start hg] at q
  obtain ⟨v, T, e, q'⟩ := Wp.ok (Wp.run (vs := .c i :: vs) (by simpa using hl) q)
  rw [EndG_eq] at q'
  obtain ⟨g', rfl, ok', p⟩ := q'
  exact ⟨v, g', e, ok', p⟩
theorem EndG.d {S L : Store} {i b K : Nat} {P : Val → Prop} {x : PyData} {g : List PyData} (ok : GenOk (b + K) g) (p : P (.d x)) : EndG S i b K P (.d x) ((cfg S i g L).take S.length) := by rw [EndG_eq]; exact ⟨g, cfg_take, ok, p⟩
end
/-! ### sizes of numbers -/
theorem szl : sizeLine = 16777216 := rfl
theorem bits_le {i : Int} {k : Nat} (h1 : -(2 ^ k) < i) (h2 : i < 2 ^ k) : bits i ≤ k := by
  unfold bits
  by_cases z : i.natAbs = 0
  · rw [z]
    simp
  · have : i.natAbs < 2 ^ k := by
      have : ((2 ^ k : Nat) : Int) = 2 ^ k := by simp
      omega
    exact Nat.le_of_lt ((Nat.log2_lt z).mpr this)
theorem bits_of {i : Int} {k : Nat} (h1 : 0 ≤ i) (h2 : i < 2 ^ k) : bits i ≤ k := bits_le (by have : (0 : Int) < 2 ^ k := Int.pow_pos (by decide); omega) h2
end Gs
end
section
set_option autoImplicit false
set_option linter.all false
set_option maxRecDepth 100000
set_option maxHeartbeats 1000000
/-! Gs1: hash, random, pick. -/
namespace Gs
open PySem Mp Mp.Ww Gd
local macro_rules | `(tactic| ac_rfl) => `(tactic| ((repeat ((conv => whnf); first | refine XE.st _ ?_ | refine XD.st _ ?_ | refine XV.st _ ?_ | refine XA.st _ ?_ | refine XO.st _ ?_ | refine XI.st _ ?_ | refine XS.st _ ?_ | refine XSs.st _ ?_ | refine Bra.t rfl ?_ | refine Bra.f rfl ?_ | refine Opt.of rfl ?_ | refine Opt.of atI_z ?_ | refine Opt.of atI_o ?_ | refine Opt.glb (by with_reducible assumption) ?_ | refine cm_int ?_ | refine cm_is ?_ | refine cm_eq ?_ | refine cm_ne ?_ | refine cm_gen ?_ | refine look_of (cfg_gen (by assumption)) ?_ | refine look_of (cfg_loc rfl) ?_ | refine And.intro (by first | with_reducible assumption | exact rfl | exact Nat.le_of_ble_eq_true rfl | exact ⟨rfl, Nat.le_of_ble_eq_true rfl⟩ | decide | omega | (have hsz := szl; omega)) ?_ | rw [cfg_set (by assumption)] | rw [cfg_setloc] | rw [cfg_push])); (try (conv => whnf))))
variable {Γ : Nat → List Val → M Val} {gl : List PyData}
theorem bits_mul (a b : Int) : bits (a * b) ≤ bits a + bits b + 1 := by
  unfold bits
  rw [Int.natAbs_mul]
  by_cases z : a.natAbs * b.natAbs = 0
  · rw [z]
    simp
  · have ha : a.natAbs ≠ 0 := fun e => z (by rw [e]; simp)
    have hb : b.natAbs ≠ 0 := fun e => z (by rw [e]; simp)
    have h1 : a.natAbs < 2 ^ (a.natAbs.log2 + 1) := (Nat.log2_lt ha).mp (Nat.lt_succ_self _)
    have h2 : b.natAbs < 2 ^ (b.natAbs.log2 + 1) := (Nat.log2_lt hb).mp (Nat.lt_succ_self _)
    have h3 : a.natAbs * b.natAbs < 2 ^ (a.natAbs.log2 + b.natAbs.log2 + 2) := by
      rw [show a.natAbs.log2 + b.natAbs.log2 + 2 = (a.natAbs.log2 + 1) + (b.natAbs.log2 + 1) by omega, Nat.pow_add]
      exact Nat.mul_lt_mul'' h1 h2
    have := (Nat.log2_lt z).mpr h3
    omega
def HashS (F : List Val → M Val) : Prop := ∀ (s i : Int) (S : Store), (0 ≤ s ∧ s < 2147483647) → (0 ≤ i ∧ i < 2 ^ 510) → ∃ r : Int, (0 ≤ r ∧ r < 2147483647) ∧ F [.d (.int s), .d (.int i)] S = .ok (.d (.int r)) S
theorem hash_ok : HashS (A__law_hash.run Γ gl) := by
  intro s i S hs hi
  have b1 : bits s ≤ 31 := bits_of hs.1 (by omega)
  have b2 : bits i ≤ 510 := bits_of hi.1 hi.2
  have m1 := Int.emod_nonneg (s * 1140671 + 27644437 * i * i + 131 * i + 19) (b := 2147483629) (by decide)
  have m2 := Int.emod_lt_of_pos (s * 1140671 + 27644437 * i * i + 131 * i + 19) (b := 2147483629) (by decide)
  generalize hm : (s * 1140671 + 27644437 * i * i + 131 * i + 19) % 2147483629 = m at m1 m2
  have n1 := Int.emod_nonneg (m * m + 62089 * i + 32416187) (b := 2147483587) (by decide)
  have n2 := Int.emod_lt_of_pos (m * m + 62089 * i + 32416187) (b := 2147483587) (by decide)
  generalize hn : (m * m + 62089 * i + 32416187) % 2147483587 = n at n1 n2
  have c1 : bits 1140671 ≤ 31 := by decide
  have c2 : bits 27644437 ≤ 31 := by decide
  have c3 : bits 131 ≤ 31 := by decide
  have c4 : bits 62089 ≤ 31 := by decide
  have c5 : bits 48271 ≤ 31 := by decide
  have c6 := bits_mul 27644437 i
  have c7 : bits m ≤ 31 := bits_of m1 (by omega)
  have c8 : bits n ≤ 31 := bits_of n1 (by omega)
  refine ⟨(n * 48271) % 2147483647, ⟨Int.emod_nonneg _ (by decide), Int.emod_lt_of_pos _ (by decide)⟩, ?_⟩
  refine Wp.eq (Wp.run rfl ?_)
  subst hn
  subst hm
  ac_rfl
  exact List.take_length
def RandS (F : List Val → M Val) : Prop := ∀ n : Int, (0 < n ∧ n < 2 ^ 200) → GW F [.d (.int n)] 10 (fun v => ∃ r : Int, v = .d (.int r) ∧ 0 ≤ r ∧ r < n)
theorem intBits_le {n : Int} (h : 0 < n ∧ n < 2 ^ 200) : Builtin.Int.intBits n ≤ 201 := by
  unfold Builtin.Int.intBits
  have := bits_of (by omega) h.2
  unfold bits at this
  split <;> omega
theorem rng_len (lo : Int) (n : Nat) : (rng lo n).length = n := by unfold rng; simp
theorem random_ok {k : Nat} (hash : HashS (Γ k)) : RandS ((A__law_random k).run Γ gl) := by
  intro n hn
  refine GW.run rfl fun S i g b hi ok hb => ?_
  obtain ⟨a, s, c, rfl, ⟨a0, a1⟩, hs, c0, c1⟩ := ok
  by_cases pos : 0 < a
  · have e1 : decide (0 < a) = true := decide_eq_true pos
    have e2 : bits n < 9000 := by have := bits_of (by omega) hn.2; omega
    ac_rfl
    refine Bra.t e1 ?_
    ac_rfl
    have q1 := Int.ediv_le_self n a0
    have q2 := Int.ediv_nonneg a0 (Int.le_of_lt hn.1)
    exact EndG.d ⟨_, _, _, rfl, ⟨q2, by omega⟩, hs, c0, by omega⟩ ⟨_, rfl, Int.emod_nonneg _ (by omega), Int.emod_lt_of_pos _ hn.1⟩
  · have e1 : decide (0 < a) = false := decide_eq_false pos
    have hb1 := intBits_le hn
    ac_rfl
    refine Bra.f e1 ?_
    ac_rfl
    refine Wp.forD (fun dn env T => ∃ d c' : Int, ∃ o, env = [some (.c i), some (.d (.int n)), some (.d (.int d)), o] ∧ T = cfg S i [.int a, .int s, .int c'] [] ∧ (0 ≤ d ∧ d < 2 ^ (40 * dn.length)) ∧ 0 ≤ c' ∧ c' ≤ c + dn.length) (fun _ _ _ _ => here_none) (fun dn v vs env T hits inv => ?_) (fun env T inv => ?_) ⟨0, c, _, rfl, rfl, ⟨by decide, by decide⟩, c0, by simp⟩
    · obtain ⟨d, c', o, rfl, rfl, ⟨d0, d1⟩, c0', c1'⟩ := inv
      have hl : dn.length < 8 := by
        have := congrArg List.length hits
        rw [rng_len] at this
        simp at this
        omega
      have hl2 : (2 : Int) ^ (40 * (dn ++ [v]).length) = 2 ^ (40 * dn.length) * 1099511627776 := by
        rw [List.length_append, List.length_singleton, Nat.mul_add, Int.pow_add]
        rfl
      have b1 : bits d + bits 2147483587 < 900000 := by
        have := bits_of d0 d1
        have : bits 2147483587 ≤ 31 := by decide
        omega
      refine Wp.foB ?_
      have hm : (most : Int) = 2 ^ 500 := by rfl
      have p1 : (0 : Int) < 2 ^ (40 * dn.length) := Int.pow_pos (by decide)
      ac_rfl
      obtain ⟨r, hr, e⟩ := hash s (c' + 1) (cfg S i [.int a, .int s, .int (c' + 1)] []) hs ⟨by omega, by omega⟩
      refine Wp.of e ?_
      ac_rfl
      refine ⟨d * 2147483587 + r, c' + 1, _, rfl, rfl, ⟨by omega, ?_⟩, by omega, ?_⟩
      · rw [hl2]
        omega
      · rw [List.length_append, List.length_singleton]
        omega
    · obtain ⟨d, c', o, rfl, rfl, ⟨d0, d1⟩, c0', c1'⟩ := inv
      rw [rng_len] at c1'
      ac_rfl
      exact EndG.d ⟨_, _, _, rfl, ⟨a0, a1⟩, hs, c0', by omega⟩ ⟨_, rfl, Int.emod_nonneg _ (by omega), Int.emod_lt_of_pos _ hn.1⟩
end Gs
end
section
set_option autoImplicit false
set_option linter.all false
set_option maxRecDepth 100000
set_option maxHeartbeats 1000000
/-! Gs2: a generator made, a thing picked, an order drawn. -/
namespace Gs
open PySem Mp Mp.Ww Gd
local macro_rules | `(tactic| ac_rfl) => `(tactic| ((repeat ((conv => whnf); first | refine XE.st _ ?_ | refine XD.st _ ?_ | refine XV.st _ ?_ | refine XA.st _ ?_ | refine XO.st _ ?_ | refine XI.st _ ?_ | refine XS.st _ ?_ | refine XSs.st _ ?_ | refine Bra.t rfl ?_ | refine Bra.f rfl ?_ | refine Opt.of rfl ?_ | refine Opt.of atI_z ?_ | refine Opt.of atI_o ?_ | refine Opt.glb (by with_reducible assumption) ?_ | refine cm_int ?_ | refine cm_is ?_ | refine cm_eq ?_ | refine cm_ne ?_ | refine cm_gen ?_ | refine look_of (cfg_gen (by assumption)) ?_ | refine look_of (cfg_loc rfl) ?_ | refine And.intro (by first | with_reducible assumption | exact rfl | exact Nat.le_of_ble_eq_true rfl | exact ⟨rfl, Nat.le_of_ble_eq_true rfl⟩ | decide | omega | (have hsz := szl; omega)) ?_ | rw [cfg_set (by assumption)] | rw [cfg_setloc] | rw [cfg_push])); (try (conv => whnf))))
variable {Γ : Nat → List Val → M Val} {gl : List PyData} {X : XT}
/-! ### small words -/
theorem pow_pu {i j : Int} {K : PyData → Prop} (h : 0 ≤ j ∧ j ≤ 100 ∧ bits i < 256) (k : K (.int (i ^ j.toNat))) : Pu (binD .pow (.int i) (.int j)) K := by
  refine Pu.of (fun S => ?_) k
  show bnd (guard (decide (0 ≤ j ∧ j ≤ 100 ∧ bits i < 256))) (fun _ => ret (PyData.int (i ^ j.toNat))) S = _
  rw [decide_eq_true h]
  rfl
theorem eq_nil {xs : List PyData} {K : Bool → Prop} (k : K xs.isEmpty) : PuB (eqD (.list xs) (.list [])) K := by
  cases xs with
  | nil => exact PuB.of (fun S => rfl) k
  | cons x xs => exact PuB.of (fun S => rfl) k
theorem ixN_nat {n k : Nat} (h : k < n) : L2.ixN n (k : Int) = some k := by
  unfold L2.ixN
  rw [if_pos (by omega), if_pos (by omega)]
  rfl
theorem ixN_int {n : Nat} {r : Int} (h0 : 0 ≤ r) (h : r < n) : L2.ixN n r = some r.toNat := by
  unfold L2.ixN
  rw [if_pos h0, if_pos h]
theorem atI_nat {α : Type} {xs : List α} {k : Nat} : L2.atI xs (k : Int) = xs[k]? := by
  unfold L2.atI
  by_cases h : k < xs.length
  · rw [ixN_nat h]
    rfl
  · rw [show L2.ixN xs.length (k : Int) = none by unfold L2.ixN; rw [if_pos (by omega), if_neg (by omega)]]
    rw [List.getElem?_eq_none (by omega)]
    rfl
theorem atI_int {α : Type} {xs : List α} {r : Int} (h0 : 0 ≤ r) : L2.atI xs r = xs[r.toNat]? := by
  have : r = (r.toNat : Int) := by omega
  rw [this, atI_nat]
  rfl
theorem atI_z {α : Type} {x : α} {xs : List α} : L2.atI (x :: xs) 0 = some x := by rw [atI_int (by decide)]; rfl
theorem atI_o {α : Type} {x y : α} {xs : List α} : L2.atI (x :: y :: xs) 1 = some y := by rw [atI_int (by decide)]; rfl
theorem atI_some {α : Type} {xs : List α} {r : Int} (h0 : 0 ≤ r) (h : r < xs.length) : ∃ x ∈ xs, L2.atI xs r = some x := by
  have hk : r.toNat < xs.length := by omega
  exact ⟨xs[r.toNat], List.getElem_mem hk, by rw [atI_int h0, List.getElem?_eq_getElem hk]⟩
theorem sum_pu {xs : List PyData} {ns : List Int} {K : PyData → Prop} (h : xs = ns.map .int) (k : K (.int ns.sum)) : Pu (b1D .sum (.list xs)) K := by
  subst h
  refine Pu.of (fun S => ?_) k
  have : ∀ (ns : List Int) (S : Store), intsL (ns.map .int) S = .ok ns S := by
    intro ns
    induction ns with
    | nil => intro S; rfl
    | cons n ns ih =>
      intro S
      rw [List.map_cons, intsL]
      unfold bnd
      rw [ih S]
      rfl
  show bnd (intsL (ns.map .int)) (fun ns => ret (PyData.int ns.sum)) S = _
  unfold bnd
  rw [this]
  rfl
theorem max_pu {i j : Int} {K : PyData → Prop} (k : K (.int (if j > i then j else i))) : Pu (b2D .max (.int i) (.int j)) K := Pu.of (fun S => rfl) k
theorem min_pu {i j : Int} {K : PyData → Prop} (k : K (.int (if j < i then j else i))) : Pu (b2D .min (.int i) (.int j)) K := Pu.of (fun S => rfl) k
theorem sIx_int {n d : Nat} {v : Int} (h : 0 ≤ v) : HT.sIx n d (some v) = min v.toNat n := by
  show (if v < 0 then (v + (n : Int)).toNat else min v.toNat n) = _
  rw [if_neg (by omega)]
theorem cut_to {xs : List PyData} {v : Int} (h : 0 ≤ v) : cutD xs none (some v) = xs.take v.toNat := by
  unfold cutD
  rw [sIx_int h, HT.sIx_none, List.drop_zero, Nat.sub_zero, List.take_eq_take_iff]
  omega
theorem cut_from {xs : List PyData} {v : Int} (h : 0 ≤ v) : cutD xs (some v) none = xs.drop v.toNat := by
  unfold cutD
  rw [sIx_int h, HT.sIx_none]
  by_cases q : v.toNat ≤ xs.length
  · rw [Nat.min_eq_left q, List.take_of_length_le (by simp)]
  · rw [Nat.min_eq_right (by omega), List.drop_length, List.drop_eq_nil_of_le (by omega)]
    simp
theorem cut_both {xs : List PyData} {v u : Int} (h : 0 ≤ v) (h' : 0 ≤ u) : cutD xs (some v) (some u) = (xs.drop v.toNat).take (u.toNat - v.toNat) := by
  unfold cutD
  rw [sIx_int h, sIx_int h']
  by_cases q : v.toNat ≤ xs.length
  · rw [Nat.min_eq_left q]
    by_cases q' : u.toNat ≤ xs.length
    · rw [Nat.min_eq_left q']
    · rw [Nat.min_eq_right (a := u.toNat) (by omega), List.take_of_length_le (by simp), List.take_of_length_le (by simp; omega)]
  · rw [Nat.min_eq_right (a := v.toNat) (by omega), List.drop_length, List.drop_eq_nil_of_le (by omega)]
    simp
/-! ### a script's cell, a generator -/
def CellS (F : List Val → M Val) : Prop := ∀ (ns : List Int) (i : Int) (S : Store), 0 ≤ i → ∃ r : Int, F [.scr ns, .d (.int i)] S = .ok (.d (.int r)) S
theorem cell_ok : CellS (A__law_cell.run Γ gl) := by
  intro ns i S hi
  have key : ∃ r : Int, Wp (A__law_cell.run Γ gl [.scr ns, .d (.int i)]) (fun b T => b = Val.d (PyData.int r) ∧ T = S) nx S := by
    by_cases h : i < ns.length
    · obtain ⟨r, _, hr⟩ := atI_some (xs := ns) hi h
      refine ⟨r, Wp.run rfl ?_⟩
      ac_rfl
      refine Bra.t (decide_eq_true h) ?_
      ac_rfl
      refine Opt.of hr ?_
      ac_rfl
      exact List.take_length
    · refine ⟨(ns.take 1).sum % 1000003, Wp.run rfl ?_⟩
      ac_rfl
      refine Bra.f (decide_eq_false h) ?_
      ac_rfl
      refine sum_pu (ns := ns.take 1) (by rw [cut_to (by decide)]; exact List.map_take.symm) ?_
      ac_rfl
      exact List.take_length
  obtain ⟨r, h⟩ := key
  exact ⟨r, h.eq⟩
def MakeS (F : List Val → M Val) : Prop := ∀ (ns : List Int) (i : Int) (S : Store), (0 ≤ i ∧ i < 2 ^ 60) → ∃ g, F [.scr ns, .d (.int i)] S = .ok (.c S.length) (S ++ [some (.l g)]) ∧ GenOk (1000 * i.toNat) g
theorem make_ok {k : Nat} (cell : CellS (Γ k)) : MakeS ((A__law_generator k).run Γ gl) := by
  intro ns i S hi
  obtain ⟨r, e⟩ := cell ns i S hi.1
  have b1 : bits i ≤ 60 := bits_of hi.1 hi.2
  have b2 : bits 1000 ≤ 60 := by decide
  refine ⟨[.int ((if 0 > r - 10 ^ 18 then 0 else r - 10 ^ 18) % (10 ^ 60) ^ 10), .int (r % 2147483647), .int (1000 * i)], ?_, ?_⟩
  · refine Wp.eq (Wp.run rfl ?_)
    ac_rfl
    refine Wp.of e ?_
    ac_rfl
    refine pow_pu (by decide) ?_
    ac_rfl
    refine max_pu ?_
    ac_rfl
    refine pow_pu (by decide) ?_
    ac_rfl
    refine pow_pu (by decide) ?_
    ac_rfl
    exact rfl
  · refine ⟨_, _, _, rfl, ⟨Int.emod_nonneg _ (by decide), Int.lt_trans (Int.emod_lt_of_pos _ (by decide)) (by decide)⟩, ⟨Int.emod_nonneg _ (by decide), Int.emod_lt_of_pos _ (by decide)⟩, by omega, by omega⟩
/-! ### a thing picked, an order drawn -/
def PickS (F : List Val → M Val) : Prop := ∀ xs : List PyData, xs ≠ [] → xs.length ≤ sizeLine → GW F [.d (.list xs)] 10 (fun v => ∃ x ∈ xs, v = .d x)
theorem pick_ok {k : Nat} (random : RandS (Γ k)) : PickS ((A__law_pick k).run Γ gl) := by
  intro xs ne len
  have pos : 0 < xs.length := List.length_pos_iff.mpr ne
  have hsz := szl
  refine GW.run rfl fun S i g b hi ok hb => ?_
  ac_rfl
  refine GW.call (random xs.length ⟨by omega, by omega⟩) ok hi hb fun v g' ok' p => ?_
  obtain ⟨r, rfl, r0, r1⟩ := p
  obtain ⟨x, hx, e⟩ := atI_some r0 r1
  ac_rfl
  refine Opt.of e ?_
  ac_rfl
  exact EndG.d ok' ⟨x, hx, rfl⟩
theorem erase_perm {α : Type} : ∀ (l : List α) (k : Nat) (h : k < l.length), (l[k] :: l.eraseIdx k).Perm l
  | [], k, h => absurd h (Nat.not_lt_zero k)
  | x :: l, 0, h => List.Perm.refl _
  | x :: l, k + 1, h => by
    have h' : k < l.length := by simpa using h
    have q := erase_perm l k h'
    exact (List.Perm.swap x l[k] _).trans (q.cons x)
def OrderS (F : List Val → M Val) : Prop := ∀ xs : List PyData, xs.length ≤ sizeLine → GW F [.d (.list xs)] (10 * xs.length) (fun v => ∃ ys, v = .d (.list ys) ∧ ys.Perm xs)
theorem order_ok {k : Nat} (random : RandS (Γ k)) : OrderS ((A__law_drawn_order k).run Γ gl) := by
  intro xs len
  have hsz := szl
  refine GW.run rfl fun S i g b hi ok hb => ?_
  ac_rfl
  refine Wp.whl (fun n env T => ∃ l f g', env = [some (.c i), some (.d (.list xs)), some (.c (cfg S i g []).length), some (.c (cfg S i g ([] ++ [some (Ob.l xs)])).length)] ∧
    T = cfg S i g' [some (.l l), some (.l f)] ∧ (f ++ l).Perm xs ∧ l.length = n ∧ GenOk (b + 10 * f.length) g') xs.length (by omega) ⟨xs, [], g, rfl, rfl, by simp, rfl, ok⟩ fun n env T inv => ?_
  obtain ⟨l, f, g', rfl, rfl, perm, hn, ok'⟩ := inv
  have len2 := perm.length_eq
  rw [List.length_append] at len2
  refine Wp.whC ?_
  ac_rfl
  refine eq_nil ?_
  cases l with
  | nil =>
    ac_rfl
    rw [List.append_nil] at perm
    exact EndG.d (ok'.le (by simp at len2; omega)) ⟨f, rfl, perm⟩
  | cons x0 l0 =>
    ac_rfl
    refine Wp.execs ?_
    ac_rfl
    refine GW.call (random (x0 :: l0).length ⟨by simp, by simp at len2 ⊢; omega⟩) ok' hi (by simp at len2; omega) fun v g2 ok2 p => ?_
    obtain ⟨r, rfl, r0, r1⟩ := p
    have hk : r.toNat < (x0 :: l0).length := by omega
    have l1 : (x0 :: l0).length < 16777217 := by simp at len2 ⊢; omega
    have hf : f.length < 16777216 := by simp at len2 ⊢; omega
    ac_rfl
    refine Opt.of (ixN_int r0 r1) ?_
    ac_rfl
    refine Opt.of (List.getElem?_eq_getElem hk) ?_
    ac_rfl
    refine ⟨n - 1, ?_, (x0 :: l0).eraseIdx r.toNat, f ++ [(x0 :: l0)[r.toNat]], g2, rfl, rfl, ?_, ?_, ?_⟩
    · simp at hn
      omega
    · rw [List.append_assoc]
      exact (List.Perm.append_left f (erase_perm _ _ hk)).trans perm
    · rw [List.length_eraseIdx_of_lt hk, hn]
    · rw [List.length_append, List.length_singleton]
      exact ok2.le (by omega)
end Gs
end
section
set_option autoImplicit false
set_option linter.all false
set_option maxRecDepth 100000
set_option maxHeartbeats 1000000
/-! Gs3: comprehensions with a generator; things, relations, rows. -/
namespace Gs
open PySem Mp Mp.Ww Gd
local macro_rules | `(tactic| ac_rfl) => `(tactic| ((repeat ((conv => whnf); first | refine XE.st _ ?_ | refine XD.st _ ?_ | refine XV.st _ ?_ | refine XA.st _ ?_ | refine XO.st _ ?_ | refine XI.st _ ?_ | refine XS.st _ ?_ | refine XSs.st _ ?_ | refine Bra.t rfl ?_ | refine Bra.f rfl ?_ | refine Opt.of rfl ?_ | refine Opt.of atI_z ?_ | refine Opt.of atI_o ?_ | refine Opt.glb (by with_reducible assumption) ?_ | refine cm_int ?_ | refine cm_is ?_ | refine cm_eq ?_ | refine cm_ne ?_ | refine cm_gen ?_ | refine look_of (cfg_gen (by assumption)) ?_ | refine look_of (cfg_loc rfl) ?_ | refine And.intro (by first | with_reducible assumption | exact rfl | exact Nat.le_of_ble_eq_true rfl | exact ⟨rfl, Nat.le_of_ble_eq_true rfl⟩ | decide | omega | (have hsz := szl; omega)) ?_ | rw [cfg_set (by assumption)] | rw [cfg_setloc] | rw [cfg_push])); (try (conv => whnf))))
variable {Γ : Nat → List Val → M Val} {gl : List PyData} {X : XT}
theorem map_inj {α β : Type} {f : α → β} (hf : ∀ a b, f a = f b → a = b) : ∀ {xs ys : List α}, xs.map f = ys.map f → xs = ys
  | [], [], _ => rfl
  | x :: xs, y :: ys, h => by
    rw [List.map_cons, List.map_cons, List.cons.injEq] at h
    rw [hf _ _ h.1, map_inj hf h.2]
  | [], _ :: _, h => by cases h
  | _ :: _, [], h => by cases h
theorem lc_mapH {α : Type} {p : Option (Nat × List PyData)} {f : Val → M (Option PyData)} {Q : List PyData → Store → Prop} {as : List α} {S : Store} (h : α → PyData) (g : α → PyData) (hp : Here p S)
    (k : ∀ a ∈ as, Wp (f (.d (h a))) (fun o T => o = some (g a) ∧ T = S) X S) (q : Q (as.map g) S) : Wp (lcL p f ((as.map h).map .d) []) Q X S := by
  refine Wp.lcI (fun vs acc T => T = S ∧ ∃ dn rs, as = dn ++ rs ∧ vs = (rs.map h).map .d ∧ acc = dn.map g) (fun vs acc T i => i.1 ▸ hp) (fun v vs acc T i => ?_) (fun acc T i => ?_) ⟨rfl, [], as, rfl, rfl, rfl⟩
  · obtain ⟨rfl, dn, rs, e1, e2, rfl⟩ := i
    cases rs with
    | nil => cases e2
    | cons a rs =>
      rw [List.map_cons, List.map_cons, List.cons.injEq] at e2
      obtain ⟨rfl, rfl⟩ := e2
      refine (k a (by rw [e1]; simp)).post fun o T hT => ?_
      obtain ⟨rfl, rfl⟩ := hT
      exact ⟨rfl, dn ++ [a], rs, by rw [e1]; simp, rfl, by simp⟩
  · obtain ⟨rfl, dn, rs, e1, e2, rfl⟩ := i
    cases rs with
    | cons a rs => cases e2
    | nil =>
      rw [List.append_nil] at e1
      subst e1
      exact q
theorem lc_filterH {α : Type} {p : Option (Nat × List PyData)} {f : Val → M (Option PyData)} {Q : List PyData → Store → Prop} {as : List α} {S : Store} (h : α → PyData) (b : α → Bool) (hp : Here p S)
    (k : ∀ a ∈ as, Wp (f (.d (h a))) (fun o T => o = (if b a = true then some (h a) else none) ∧ T = S) X S) (q : Q ((as.filter b).map h) S) : Wp (lcL p f ((as.map h).map .d) []) Q X S := by
  refine Wp.lcI (fun vs acc T => T = S ∧ ∃ dn rs, as = dn ++ rs ∧ vs = (rs.map h).map .d ∧ acc = (dn.filter b).map h) (fun vs acc T i => i.1 ▸ hp) (fun v vs acc T i => ?_) (fun acc T i => ?_) ⟨rfl, [], as, rfl, rfl, rfl⟩
  · obtain ⟨rfl, dn, rs, e1, e2, rfl⟩ := i
    cases rs with
    | nil => cases e2
    | cons a rs =>
      rw [List.map_cons, List.map_cons, List.cons.injEq] at e2
      obtain ⟨rfl, rfl⟩ := e2
      refine (k a (by rw [e1]; simp)).post fun o T hT => ?_
      obtain ⟨rfl, rfl⟩ := hT
      refine ⟨rfl, dn ++ [a], rs, by rw [e1]; simp, rfl, ?_⟩
      rw [List.filter_append, List.map_append]
      congr 1
      by_cases hb : b a = true
      · rw [if_pos hb, List.filter_cons_of_pos hb]; rfl
      · rw [if_neg hb, List.filter_cons_of_neg hb]; rfl
  · obtain ⟨rfl, dn, rs, e1, e2, rfl⟩ := i
    cases rs with
    | cons a rs => cases e2
    | nil =>
      rw [List.append_nil] at e1
      subst e1
      exact q
/-- a turn with a generator -/
theorem lc_gen {f : Val → M (Option PyData)} {its : List Val} {c b : Nat} {S L : Store} {i : Nat} {g : List PyData} {Q : List PyData → Store → Prop} (R : List Val → List PyData → Prop) (ok : GenOk b g) (hb : b + c * its.length ≤ most)
    (r0 : R [] []) (step : ∀ dn v acc g' b', (∃ r, its = dn ++ v :: r) → R dn acc → GenOk b' g' → b' + c ≤ most → Wp (f v) (fun o T => ∃ g2, T = cfg S i g2 L ∧ GenOk (b' + c) g2 ∧ R (dn ++ [v]) (acc ++ o.toList)) X (cfg S i g' L))
    (q : ∀ ys g', R its ys → GenOk (b + c * its.length) g' → Q ys (cfg S i g' L)) : Wp (lcL none f its []) Q X (cfg S i g L) := by
  refine Wp.lcI (fun vs acc T => ∃ dn g', its = dn ++ vs ∧ T = cfg S i g' L ∧ GenOk (b + c * dn.length) g' ∧ R dn acc) (fun _ _ _ _ => here_none) (fun v vs acc T inv => ?_) (fun acc T inv => ?_) ⟨[], g, rfl, rfl, by simpa using ok, r0⟩
  · obtain ⟨dn, g', e, rfl, ok', r⟩ := inv
    have hl := congrArg List.length e
    rw [List.length_append, List.length_cons] at hl
    have hm : c * dn.length + c ≤ c * its.length := by
      rw [← Nat.mul_succ]
      exact Nat.mul_le_mul_left c (by omega)
    refine (step dn v acc g' _ ⟨vs, e⟩ r ok' (by omega)).post fun o T p => ?_
    obtain ⟨g2, rfl, ok2, r2⟩ := p
    refine ⟨dn ++ [v], g2, by rw [e]; simp, rfl, ?_, r2⟩
    rw [List.length_append, List.length_singleton, Nat.mul_add, Nat.mul_one, ← Nat.add_assoc]
    exact ok2
  · obtain ⟨dn, g', e, rfl, ok', r⟩ := inv
    rw [List.append_nil] at e
    subst e
    exact q acc g' r ok'
/-- each turn gives an item -/
theorem lc_genM {f : Val → M (Option PyData)} {its : List Val} {c b : Nat} {S L : Store} {i : Nat} {g : List PyData} {Q : List PyData → Store → Prop} (P : PyData → Prop) (ok : GenOk b g) (hb : b + c * its.length ≤ most)
    (step : ∀ v g' b', v ∈ its → GenOk b' g' → b' + c ≤ most → Wp (f v) (fun o T => ∃ g2 y, T = cfg S i g2 L ∧ o = some y ∧ GenOk (b' + c) g2 ∧ P y) X (cfg S i g' L))
    (q : ∀ ys g', ys.length = its.length → (∀ y ∈ ys, P y) → GenOk (b + c * its.length) g' → Q ys (cfg S i g' L)) : Wp (lcL none f its []) Q X (cfg S i g L) := by
  refine lc_gen (c := c) (fun dn acc => acc.length = dn.length ∧ ∀ y ∈ acc, P y) ok hb ⟨rfl, by simp⟩ (fun dn v acc g' b' e r ok' hb' => ?_) (fun ys g' r ok' => q ys g' r.1 r.2 ok')
  obtain ⟨r', e⟩ := e
  refine (step v g' b' (by rw [e]; simp) ok' hb').post fun o T p => ?_
  obtain ⟨g2, y, rfl, rfl, ok2, py⟩ := p
  refine ⟨g2, rfl, ok2, by simp [r.1], fun z hz => ?_⟩
  rcases List.mem_append.mp hz with h | h
  · exact r.2 z h
  · rw [Option.toList_some, List.mem_singleton] at h
    exact h ▸ py
/-- each turn keeps its item or leaves it -/
theorem lc_genF {f : Val → M (Option PyData)} {xs : List PyData} {c b : Nat} {S L : Store} {i : Nat} {g : List PyData} {Q : List PyData → Store → Prop} (ok : GenOk b g) (hb : b + c * xs.length ≤ most)
    (step : ∀ x g' b', x ∈ xs → GenOk b' g' → b' + c ≤ most → Wp (f (.d x)) (fun o T => ∃ g2, T = cfg S i g2 L ∧ (o = some x ∨ o = none) ∧ GenOk (b' + c) g2) X (cfg S i g' L))
    (q : ∀ ys g', ys.Sublist xs → GenOk (b + c * xs.length) g' → Q ys (cfg S i g' L)) : Wp (lcL none f (xs.map .d) []) Q X (cfg S i g L) := by
  refine lc_gen (c := c) (fun dn acc => ∃ zs, dn = zs.map Val.d ∧ acc.Sublist zs) ok (by rw [List.length_map]; exact hb) ⟨[], rfl, .slnil⟩ (fun dn v acc g' b' e r ok' hb' => ?_) (fun ys g' r ok' => ?_)
  · obtain ⟨r', e⟩ := e
    obtain ⟨zs, rfl, sub⟩ := r
    have hv : v ∈ xs.map Val.d := by rw [e]; simp
    obtain ⟨x, hx, rfl⟩ := List.mem_map.mp hv
    refine (step x g' b' hx ok' hb').post fun o T p => ?_
    obtain ⟨g2, rfl, ho, ok2⟩ := p
    refine ⟨g2, rfl, ok2, zs ++ [x], by simp, ?_⟩
    rcases ho with rfl | rfl
    · exact sub.append (List.Sublist.refl _)
    · rw [Option.toList_none, List.append_nil]
      exact sub.trans (List.sublist_append_left _ _)
  · obtain ⟨zs, e, sub⟩ := r
    have : xs = zs := map_inj (fun a b h => by cases h; rfl) e
    subst this
    rw [List.length_map] at ok'
    exact q ys g' sub ok'
/-! ### things and relations -/
def MENU : List (List Str) := [["a", "b", "c", "d"], ["a", "a1", "aa", "b"], ["n0", "n1", "n2", "n3"], ["edge", "x", "y", "zz"], ["hall", "home", "west", "west2"]]
/-- n things -/
def Th (n : Nat) (ts : List Str) : Prop := ∃ m ∈ MENU, ∃ k, k + n ≤ 4 ∧ ts = (m.drop k).take n
abbrev sD (ts : List Str) : List PyData := ts.map PyData.str
def ThingsS (F : List Val → M Val) : Prop := ∀ n : Nat, (1 ≤ n ∧ n ≤ 4) → GW F [.d (.int n)] 20 (fun v => ∃ ts, v = .d (.list (sD ts)) ∧ Th n ts)
theorem things_ok {kp kr : Nat} (pick : PickS (Γ kp)) (random : RandS (Γ kr)) : ThingsS ((A__law_things kp kr).run Γ gl) := by
  intro n hn
  refine GW.run rfl fun S i g b hi ok hb => ?_
  ac_rfl
  refine GW.call (pick (MENU.map fun m => .list (sD m)) (by decide) (by decide)) ok hi (by omega) fun v g1 ok1 p => ?_
  obtain ⟨x, hx, rfl⟩ := p
  obtain ⟨m, hm, rfl⟩ := List.mem_map.mp hx
  ac_rfl
  refine GW.call (random (5 - n) ⟨by omega, by omega⟩) ok1 hi (by omega) fun v g2 ok2 p => ?_
  obtain ⟨r, rfl, r0, r1⟩ := p
  ac_rfl
  refine EndG.d ok2 ⟨(m.drop r.toNat).take n, ?_, m, hm, r.toNat, by omega, rfl⟩
  rw [cut_both r0 (by omega), show (r + (n : Int)).toNat - r.toNat = n by omega]
  show _ = Val.d (PyData.list (((m.drop r.toNat).take n).map PyData.str))
  rw [List.map_take, List.map_drop]
def RELS : List (List (Str × Nat)) := [[("edge", 2), ("red", 1), ("rain", 0)], [("edge", 2), ("edge", 1), ("edge", 0)], [("a", 2), ("b", 1), ("a", 0)], [("s", 2), ("red", 1), ("r3", 3)], [("edge", 2), ("red", 1), ("likes", 2)], [("s", 2), ("red", 1), ("blue", 1)]]
def relD (p : Str × Nat) : PyData := .tuple [.str p.1, .int p.2]
def RelS (F : List Val → M Val) : Prop := GW F [] 10 (fun v => ∃ r ∈ RELS, v = .d (.list (r.map relD)))
theorem relations_ok {kr : Nat} (random : RandS (Γ kr)) : RelS ((A__law_relations kr).run Γ gl) := by
  refine GW.run rfl fun S i g b hi ok hb => ?_
  ac_rfl
  refine GW.call (random 8 ⟨by omega, by omega⟩) ok hi (by omega) fun v g1 ok1 p => ?_
  obtain ⟨r, rfl, r0, r1⟩ := p
  ac_rfl
  obtain ⟨y, hy, e⟩ := atI_some (xs := [PyData.int 0, .int 0, .int 0, .int 1, .int 2, .int 3, .int 4, .int 5]) r0 r1
  have hj : ∃ j : Int, y = .int j ∧ 0 ≤ j ∧ j < 6 := by
    simp only [List.mem_cons, List.not_mem_nil, or_false] at hy
    rcases hy with rfl | rfl | rfl | rfl | rfl | rfl | rfl | rfl <;> exact ⟨_, rfl, by decide, by decide⟩
  obtain ⟨j, rfl, j0, j1⟩ := hj
  refine Opt.of e ?_
  ac_rfl
  obtain ⟨x, hx, e2⟩ := atI_some (xs := RELS.map fun r => PyData.list (r.map relD)) j0 j1
  refine Opt.of e2 ?_
  obtain ⟨r, hr, rfl⟩ := List.mem_map.mp hx
  ac_rfl
  exact EndG.d ok1 ⟨r, hr, rfl⟩
/-! ### rows -/
def rowsL {α : Type} (xs : List α) : Nat → List (List α)
  | 0 => [[]]
  | n + 1 => (rowsL xs n).flatMap fun row => xs.map fun x => row ++ [x]
theorem sum_rep (n a : Nat) : (List.replicate n a).sum = n * a := by
  induction n with
  | zero => simp
  | succ n ih => rw [List.replicate_succ, List.sum_cons, ih, Nat.succ_mul, Nat.add_comm]
theorem rowsL_len {α : Type} (xs : List α) : ∀ n, (rowsL xs n).length = xs.length ^ n
  | 0 => rfl
  | n + 1 => by
    rw [rowsL, List.length_flatMap, Nat.pow_succ]
    simp only [List.length_map]
    rw [List.map_const', sum_rep, rowsL_len xs n]
theorem rowsL_mem {α : Type} {xs : List α} : ∀ {n : Nat} {r : List α}, r ∈ rowsL xs n ↔ r.length = n ∧ ∀ x ∈ r, x ∈ xs
  | 0, r => by
    rw [rowsL, List.mem_singleton]
    constructor
    · rintro rfl
      exact ⟨rfl, by simp⟩
    · intro h
      exact List.length_eq_zero_iff.mp h.1
  | n + 1, r => by
    rw [rowsL, List.mem_flatMap]
    constructor
    · rintro ⟨a, ha, hr⟩
      obtain ⟨x, hx, rfl⟩ := List.mem_map.mp hr
      obtain ⟨h1, h2⟩ := rowsL_mem.mp ha
      refine ⟨by simp [h1], fun z hz => ?_⟩
      rcases List.mem_append.mp hz with q | q
      · exact h2 z q
      · rw [List.mem_singleton] at q
        exact q ▸ hx
    · rintro ⟨h1, h2⟩
      have ne : r ≠ [] := fun e => by rw [e] at h1; cases h1
      refine ⟨r.dropLast, rowsL_mem.mpr ⟨by simp [h1], fun z hz => h2 z (List.dropLast_sublist r |>.subset hz)⟩, List.mem_map.mpr ⟨r.getLast ne, h2 _ (List.getLast_mem ne), List.dropLast_concat_getLast ne⟩⟩
theorem cat_lists : ∀ (yss : List (List PyData)) (S : Store), catL (yss.map .list) S = .ok yss.flatten S
  | [], S => rfl
  | ys :: yss, S => by
    rw [List.map_cons, catL]
    unfold bnd
    rw [cat_lists yss S]
    rfl
/-- sum(xs, []) -/
theorem sum_lists {yss : List (List PyData)} {K : PyData → Prop} (h : yss.flatten.length ≤ sizeLine) (k : K (.list yss.flatten)) : Pu (b2D .sum (.list (yss.map .list)) (.list [])) K := by
  refine Pu.of (fun S => ?_) k
  show bnd (catL (yss.map .list)) (fun ys => mkL ys) S = _
  unfold bnd
  rw [cat_lists]
  show bnd (guard (decide (yss.flatten.length ≤ sizeLine))) (fun _ => ret (PyData.list yss.flatten)) S = _
  rw [decide_eq_true h]
  rfl
def RowsS (F : List Val → M Val) : Prop := ∀ (xs : List PyData) (n : Nat) (S : Store), xs.length ≤ 8 → n ≤ 4 → F [.d (.list xs), .d (.int n)] S = .ok (.d (.list ((rowsL xs n).map .tuple))) S
theorem pow_small {a n : Nat} (h : a ≤ 8) (k : n ≤ 4) : a ^ n ≤ 4096 := Nat.le_trans (Nat.pow_le_pow_left h n) (Nat.le_trans (Nat.pow_le_pow_right (by decide) k) (by decide))
theorem rows_ok : RowsS (A__law_rows.run Γ gl) := by
  intro xs n S hx hn
  refine Wp.eq (Wp.run rfl ?_)
  ac_rfl
  refine Wp.forD (fun dn env T => ∃ o o1 o2, env = [some (.d (.list xs)), some (.d (.int n)), some (.d (.list ((rowsL xs dn.length).map .tuple))), o, o1, o2] ∧ T = S) (fun _ _ _ _ => here_none) (fun dn v vs env T hits inv => ?_) (fun env T inv => ?_) ⟨_, _, _, rfl, rfl⟩
  · obtain ⟨o, o1, o2, rfl, rfl⟩ := inv
    have hl : dn.length < n := by
      have := congrArg List.length hits
      rw [rng_len] at this
      simp at this
      omega
    have hp := pow_small (n := dn.length) hx (by omega)
    have hp1 := pow_small (n := dn.length + 1) hx (by omega)
    have hp2 := rowsL_len xs (dn.length + 1)
    have hsz := szl
    refine Wp.foB ?_
    ac_rfl
    refine lc_mapH (as := rowsL xs dn.length) PyData.tuple (fun r => .list (xs.map fun x => .tuple (r ++ [x]))) here_none (fun r hr => ?_) ?_
    · have hr1 := (rowsL_mem.mp hr).1
      refine Wp.lcB ?_
      ac_rfl
      refine Wp.lc_map (fun x => .tuple (r ++ [x])) here_none (fun x hx => ?_) ?_
      · refine Wp.lcB ?_
        ac_rfl
        refine ⟨by rw [List.length_append, List.length_singleton]; omega, ?_⟩
        ac_rfl
      · refine ⟨by rw [List.length_map]; omega, ?_⟩
        ac_rfl
    · refine ⟨by rw [List.length_map, rowsL_len]; omega, ?_⟩
      ac_rfl
      have e : (rowsL xs dn.length).map (fun r => PyData.list (xs.map fun x => .tuple (r ++ [x]))) = ((rowsL xs dn.length).map fun r => xs.map fun x => PyData.tuple (r ++ [x])).map PyData.list := by
        rw [List.map_map]; rfl
      have e2 : ((rowsL xs dn.length).map fun r => xs.map fun x => PyData.tuple (r ++ [x])).flatten = (rowsL xs (dn.length + 1)).map PyData.tuple := by
        rw [rowsL, List.map_flatMap, List.flatMap_def]
        congr 1
        refine List.map_congr_left fun r hr => ?_
        rw [List.map_map]; rfl
      rw [e]
      refine sum_lists (by rw [e2, List.length_map]; omega) ?_
      rw [e2]
      ac_rfl
      refine ⟨some v, o1, o2, ?_, rfl⟩
      rw [List.length_append, List.length_singleton]
      rfl
  · obtain ⟨o, o1, o2, rfl, rfl⟩ := inv
    rw [rng_len]
    ac_rfl
    exact List.take_length
end Gs
end
section
set_option autoImplicit false
set_option linter.all false
set_option maxRecDepth 100000
set_option maxHeartbeats 1000000
/-! Gs4: facts spread, links. -/
namespace Gs
open PySem Mp Mp.Ww Gd
local macro_rules | `(tactic| ac_rfl) => `(tactic| ((repeat ((conv => whnf); first | refine XE.st _ ?_ | refine XD.st _ ?_ | refine XV.st _ ?_ | refine XA.st _ ?_ | refine XO.st _ ?_ | refine XI.st _ ?_ | refine XS.st _ ?_ | refine XSs.st _ ?_ | refine Bra.t rfl ?_ | refine Bra.f rfl ?_ | refine Opt.of rfl ?_ | refine Opt.of atI_z ?_ | refine Opt.of atI_o ?_ | refine Opt.glb (by with_reducible assumption) ?_ | refine cm_int ?_ | refine cm_is ?_ | refine cm_eq ?_ | refine cm_ne ?_ | refine cm_gen ?_ | refine look_of (cfg_gen (by assumption)) ?_ | refine look_of (cfg_loc rfl) ?_ | refine And.intro (by first | with_reducible assumption | exact rfl | exact Nat.le_of_ble_eq_true rfl | exact ⟨rfl, Nat.le_of_ble_eq_true rfl⟩ | decide | omega | (have hsz := szl; omega)) ?_ | rw [cfg_set (by assumption)] | rw [cfg_setloc] | rw [cfg_push])); (try (conv => whnf))))
variable {Γ : Nat → List Val → M Val} {gl : List PyData} {X : XT}
/-- a fact: a word, things -/
def fct (w : Str) (r : List Str) : PyData := .tuple (.str w :: sD r)
theorem strs_of {xs : List PyData} {ts : List Str} (h : ∀ x ∈ xs, x ∈ sD ts) : ∃ us : List Str, xs = sD us ∧ ∀ u ∈ us, u ∈ ts := by
  induction xs with
  | nil => exact ⟨[], rfl, by simp⟩
  | cons x xs ih =>
    obtain ⟨us, rfl, hu⟩ := ih fun y hy => h y (List.mem_cons_of_mem _ hy)
    obtain ⟨u, hu', rfl⟩ := List.mem_map.mp (h x (List.mem_cons_self ..))
    exact ⟨u :: us, rfl, fun v hv => by
      rcases List.mem_cons.mp hv with rfl | hv
      · exact hu'
      · exact hu v hv⟩
theorem rows_of {rs : List PyData} {ts : List Str} {n : Nat} (h : ∀ x ∈ rs, ∃ r, x = .tuple r ∧ r.length = n ∧ ∀ y ∈ r, y ∈ sD ts) : ∃ us : List (List Str), rs = us.map (fun r => .tuple (sD r)) ∧ ∀ u ∈ us, u.length = n ∧ ∀ t ∈ u, t ∈ ts := by
  induction rs with
  | nil => exact ⟨[], rfl, by simp⟩
  | cons x xs ih =>
    obtain ⟨us, rfl, hu⟩ := ih fun y hy => h y (List.mem_cons_of_mem _ hy)
    obtain ⟨r, rfl, hr, hm⟩ := h x (List.mem_cons_self ..)
    obtain ⟨u, rfl, hu'⟩ := strs_of hm
    refine ⟨u :: us, rfl, fun v hv => ?_⟩
    rcases List.mem_cons.mp hv with rfl | hv
    · exact ⟨by simpa using hr, hu'⟩
    · exact hu v hv
theorem cut_tail {x : PyData} {xs : List PyData} : cutD (x :: xs) (some 1) none = xs := by rw [cut_from (by decide)]; rfl
def SpreadS (F : List Val → M Val) : Prop := ∀ (ts : List Str) (w : Str) (p : Nat) (often : Int), (1 ≤ ts.length ∧ ts.length ≤ 8) → p ≤ 3 → (0 < often ∧ often < 1000) →
  GW F [.d (.list (sD ts)), .d (relD (w, p)), .d (.int often)] 1000 (fun v => ∃ rows : List (List Str), v = .d (.list (rows.map (fct w))) ∧ (∀ r ∈ rows, r.length = p ∧ ∀ t ∈ r, t ∈ ts) ∧ (p = 3 → rows.length ≤ 3) ∧ (p ≠ 3 → rows.length ≤ ts.length ^ p))
theorem spread_ok {kp kr kw : Nat} (pick : PickS (Γ kp)) (random : RandS (Γ kr)) (rows : RowsS (Γ kw)) : SpreadS ((A__law_spread kp kr kw).run Γ gl) := by
  intro ts w p often ht hp ho
  refine GW.run rfl fun S i g b hi ok hb => ?_
  have hsz := szl
  have hne : sD ts ≠ [] := fun e => by rw [List.map_eq_nil_iff] at e; rw [e] at ht; exact absurd ht.1 (by decide)
  have hle : (sD ts).length ≤ sizeLine := by rw [List.length_map]; omega
  ac_rfl
  refine Bra.join (fun env T => ∃ (rs : List (List Str)) (o1 o2 o3 : Option Val) (g2 : List PyData), env = [some (.c i), some (.d (.list (sD ts))), some (.d (relD (w, p))), some (.d (.int often)), some (.d (.str w)), some (.d (.int p)), some (.d (.list (rs.map fun r => .tuple (sD r)))), o1, o2, o3] ∧ T = cfg S i g2 [] ∧
    (∀ r ∈ rs, r.length = p ∧ ∀ t ∈ r, t ∈ ts) ∧ (p = 3 → rs.length ≤ 3) ∧ (p ≠ 3 → rs.length ≤ ts.length ^ p) ∧ GenOk (b + 1000) g2) ?_ (fun e3 => ?_) fun e3 => ?_
  · rintro env T ⟨rs, o1, o2, o3, g2, rfl, rfl, h1, h2, h3, ok2⟩
    have hl : rs.length ≤ 4096 := by
      by_cases e : p = 3
      · exact Nat.le_trans (h2 e) (by decide)
      · exact Nat.le_trans (h3 e) (pow_small ht.2 (by omega))
    ac_rfl
    refine lc_mapH (as := rs) _ (fct w) here_none (fun r hr => ?_) ?_
    · have h := (h1 r hr).1
      refine Wp.lcB ?_
      ac_rfl
      refine ⟨by simp; omega, ?_⟩
      ac_rfl
    · refine ⟨by rw [List.length_map]; omega, ?_⟩
      ac_rfl
      exact EndG.d ok2 ⟨rs, rfl, h1, h2, h3⟩
  · have e4 : p = 3 := by simp at e3; omega
    subst e4
    ac_rfl
    refine GW.call (random 4 ⟨by omega, by omega⟩) ok hi (by omega) fun v g1 ok1 p => ?_
    obtain ⟨r, rfl, r0, r1⟩ := p
    ac_rfl
    refine lc_genM (c := 30) (fun y => ∃ r, y = .tuple r ∧ r.length = 3 ∧ ∀ z ∈ r, z ∈ sD ts) ok1 (by rw [rng_len]; omega) (fun v g' b' hv ok' hb' => ?_) fun ys g2 hys hP ok2 => ?_
    · refine Wp.lcB ?_
      ac_rfl
      refine lc_genM (c := 10) (fun y => y ∈ sD ts) ok' (by rw [rng_len]; exact hb') (fun v g' b' hv ok' hb' => ?_) fun ys g2 hys hP ok2 => ?_
      · refine Wp.lcB ?_
        ac_rfl
        refine GW.call (pick (sD ts) hne hle) ok' hi hb' fun v g1 ok1 p => ?_
        obtain ⟨x, hx, rfl⟩ := p
        ac_rfl
        exact ⟨g1, x, rfl, rfl, ok1, hx⟩
      · rw [rng_len] at hys ok2
        refine ⟨by rw [hys]; decide, ?_⟩
        ac_rfl
        exact ⟨g2, _, rfl, rfl, ok2, ys, rfl, hys, hP⟩
    · rw [rng_len] at hys ok2
      refine ⟨by omega, ?_⟩
      ac_rfl
      obtain ⟨us, rfl, hu⟩ := rows_of hP
      rw [List.length_map] at hys
      exact ⟨us, _, _, _, g2, rfl, rfl, hu, fun _ => by omega, fun h => absurd rfl h, ok2.le (by omega)⟩
  · have e4 : p ≠ 3 := by simp at e3; omega
    ac_rfl
    refine Wp.of (rows (sD ts) p _ (by rw [List.length_map]; exact ht.2) (by omega)) ?_
    have hlen : (rowsL (sD ts) p).length = ts.length ^ p := by rw [rowsL_len, List.length_map]
    have hp64 : ts.length ^ p ≤ 64 := by
      have : p ≤ 2 := by omega
      exact Nat.le_trans (Nat.pow_le_pow_left ht.2 p) (Nat.le_trans (Nat.pow_le_pow_right (by decide) this) (by decide))
    ac_rfl
    refine lc_genF (c := 10) ok (by rw [List.length_map, hlen]; omega) (fun x g' b' hx ok' hb' => ?_) fun ys g2 sub ok2 => ?_
    · refine Wp.lcB ?_
      ac_rfl
      refine GW.call (random often ⟨by omega, by omega⟩) ok' hi hb' fun v g1 ok1 p => ?_
      obtain ⟨r, rfl, r0, r1⟩ := p
      ac_rfl
      refine Bra.both (fun _ => ?_) fun _ => ?_
      · ac_rfl
        exact ⟨g1, rfl, .inl rfl, ok1⟩
      · ac_rfl
        exact ⟨g1, rfl, .inr rfl, ok1⟩
    · have hl := sub.length_le
      rw [List.length_map, hlen] at hl ok2
      refine ⟨by omega, ?_⟩
      ac_rfl
      obtain ⟨us, rfl, hu⟩ := rows_of (rs := ys) (ts := ts) (n := p) fun x hx => by
        obtain ⟨r, hr, rfl⟩ := List.mem_map.mp (sub.subset hx)
        obtain ⟨h1, h2⟩ := rowsL_mem.mp hr
        exact ⟨r, rfl, h1, h2⟩
      rw [List.length_map] at hl
      exact ⟨us, _, _, _, g2, rfl, rfl, hu, fun h => absurd h e4, fun _ => hl, ok2.le (by omega)⟩
end Gs
end
section
set_option autoImplicit false
set_option linter.all false
set_option maxRecDepth 100000
set_option maxHeartbeats 1000000
/-! Gs5: links. -/
namespace Gs
open PySem Mp Mp.Ww Gd
local macro_rules | `(tactic| ac_rfl) => `(tactic| ((repeat ((conv => whnf); first | refine XE.st _ ?_ | refine XD.st _ ?_ | refine XV.st _ ?_ | refine XA.st _ ?_ | refine XO.st _ ?_ | refine XI.st _ ?_ | refine XS.st _ ?_ | refine XSs.st _ ?_ | refine Bra.t rfl ?_ | refine Bra.f rfl ?_ | refine Opt.of rfl ?_ | refine Opt.of atI_z ?_ | refine Opt.of atI_o ?_ | refine Opt.glb (by with_reducible assumption) ?_ | refine cm_int ?_ | refine cm_is ?_ | refine cm_eq ?_ | refine cm_ne ?_ | refine cm_gen ?_ | refine look_of (cfg_gen (by assumption)) ?_ | refine look_of (cfg_loc rfl) ?_ | refine And.intro (by first | with_reducible assumption | exact rfl | exact Nat.le_of_ble_eq_true rfl | exact ⟨rfl, Nat.le_of_ble_eq_true rfl⟩ | decide | omega | (have hsz := szl; omega)) ?_ | rw [cfg_set (by assumption)] | rw [cfg_setloc] | rw [cfg_push])); (try (conv => whnf))))
variable {Γ : Nat → List Val → M Val} {gl : List PyData} {X : XT}
/-! ### a call that gives a new cell -/
def GWR (F : List Val → M Val) (vs : List Val) (K : Nat) (P : List PyData → Prop) : Prop :=
  ∀ (S : Store) (i : Nat) (g : List PyData) (b : Nat), S[i]? = some (some (.l g)) → GenOk b g → b + K ≤ most → ∃ xs g', F (.c i :: vs) S = .ok (.c S.length) (S.set i (some (.l g')) ++ [some (.l xs)]) ∧ GenOk (b + K) g' ∧ P xs
theorem GWR.call {k : Nat} {vs : List Val} {K b : Nat} {P : List PyData → Prop} {S L : Store} {i : Nat} {g : List PyData} {Q : Val → Store → Prop} (h : GWR (Γ k) vs K P) (ok : GenOk b g) (hi : i < S.length) (hb : b + K ≤ most)
    (q : ∀ xs g', GenOk (b + K) g' → P xs → Q (.c (cfg S i g L).length) (cfg S i g' (L ++ [some (.l xs)]))) : Wp (Γ k (.c i :: vs)) Q X (cfg S i g L) := by
  obtain ⟨xs, g', e, ok', p⟩ := h (cfg S i g L) i g b (cfg_gen hi) ok hb
  rw [cfg_set hi, cfg_push] at e
  exact Wp.of e (q xs g' ok' p)
structure EndR (S : Store) (i b K : Nat) (P : List PyData → Prop) (v : Val) (T : Store) : Prop where
  go : ∃ g' xs, v = .c S.length ∧ T = S.set i (some (.l g')) ++ [some (.l xs)] ∧ GenOk (b + K) g' ∧ P xs
theorem EndR_eq (S : Store) (i b K : Nat) (P : List PyData → Prop) (v : Val) (T : Store) : EndR S i b K P v T = ∃ g' xs, v = .c S.length ∧ T = S.set i (some (.l g')) ++ [some (.l xs)] ∧ GenOk (b + K) g' ∧ P xs := propext ⟨fun h => h.go, fun h => ⟨h⟩⟩
theorem GWR.run {fn : Fn} {vs : List Val} {K : Nat} {P : List PyData → Prop} (hl : (Val.c 0 :: vs).length = fn.np)
    (h : ∀ (S : Store) (i : Nat) (g : List PyData) (b : Nat), i < S.length → GenOk b g → b + K ≤ most → XSs Γ gl nx fn.body ((Val.c i :: vs).map some ++ List.replicate (fn.ns - fn.np) none) (endX S fn.raw (EndR S i b K P)) (cfg S i g [])) : GWR (fn.run Γ gl) vs K P := by
  intro S i g b hg ok hb
  have hi : i < S.length := (List.getElem?_eq_some_iff.mp hg).1
  have q := h S i g b hi ok hb
  rw [← cfg_start hg] at q
  obtain ⟨v, T, e, q'⟩ := Wp.ok (Wp.run (vs := .c i :: vs) (by simpa using hl) q)
  rw [EndR_eq] at q'
  obtain ⟨g', xs, rfl, rfl, ok', p⟩ := q'
  exact ⟨xs, g', e, ok', p⟩
theorem EndR.c {S : Store} {i b K : Nat} {P : List PyData → Prop} {xs : List PyData} {g g0 : List PyData} (ok : GenOk (b + K) g) (p : P xs) : EndR S i b K P (.c (cfg S i g0 []).length) (cfg S i g [some (.l xs)]) := by
  rw [EndR_eq]
  exact ⟨g, xs, by rw [cfg_len]; rfl, by rw [cfg_eq], ok, p⟩
/-! ### texts -/
def unStr : PyData → Str
  | .str s => s
  | _ => ""
theorem perm_strs {ys : List PyData} {ts : List Str} (h : ys.Perm (sD ts)) : ∃ os : List Str, ys = sD os ∧ os.Perm ts := by
  obtain ⟨os, rfl, _⟩ := strs_of fun x hx => h.mem_iff.mp hx
  refine ⟨os, rfl, ?_⟩
  have q := h.map unStr
  rw [List.map_map, List.map_map] at q
  have e : unStr ∘ PyData.str = id := rfl
  rw [e, List.map_id, List.map_id] at q
  exact q
/-- a text that can be laid -/
abbrev Lay (t : Str) : Prop := PyData.canLay0 (.str t) = true
theorem shaped_str {t : Str} (h : Lay t) : SeqAt.shaped (.str t) = true := by
  unfold SeqAt.shaped
  rw [h]
  simp [PyData.depth]
theorem lay_all {ts : List Str} (h : ∀ t ∈ ts, Lay t) : PyData.canLayAll0 (sD ts) = true := by
  induction ts with
  | nil => rfl
  | cons t ts ih =>
    show PyData.canLayAll0 (.str t :: sD ts) = true
    rw [PyData.canLayAll0, h t (List.mem_cons_self ..), ih fun u hu => h u (List.mem_cons_of_mem _ hu)]
    rfl
theorem depth_strs (ts : List Str) : PyData.depth (.list (sD ts)) ≤ 2 := by
  have : PyData.depthAll (sD ts) = 0 := by
    induction ts with
    | nil => rfl
    | cons t ts ih =>
      show PyData.depthAll (.str t :: sD ts) = 0
      rw [PyData.depthAll, ih]
      rfl
  rw [PyData.depth, this]
  decide
theorem mem_rng {n : Nat} {v : Val} (h : v ∈ rng 0 n) : ∃ j : Nat, j < n ∧ v = .d (.int j) := by
  unfold rng at h
  obtain ⟨j, hj, rfl⟩ := List.mem_map.mp h
  exact ⟨j, List.mem_range.mp hj, by rw [Int.zero_add]⟩
/-- each turn gives an item, and changes nothing -/
theorem lc_pureM {p : Option (Nat × List PyData)} {f : Val → M (Option PyData)} {its : List Val} {S : Store} {Q : List PyData → Store → Prop} (P : PyData → Prop) (hp : Here p S)
    (step : ∀ v ∈ its, Wp (f v) (fun o T => ∃ y, T = S ∧ o = some y ∧ P y) X S) (q : ∀ ys, ys.length = its.length → (∀ y ∈ ys, P y) → Q ys S) : Wp (lcL p f its []) Q X S := by
  refine Wp.lcI (fun vs acc T => T = S ∧ (∀ v ∈ vs, v ∈ its) ∧ acc.length + vs.length = its.length ∧ ∀ y ∈ acc, P y) (fun vs acc T i => i.1 ▸ hp) (fun v vs acc T i => ?_) (fun acc T i => ?_) ⟨rfl, fun _ h => h, by simp, by simp⟩
  · obtain ⟨rfl, i1, i2, i3⟩ := i
    refine (step v (i1 v (List.mem_cons_self ..))).post fun o T h => ?_
    obtain ⟨y, rfl, rfl, py⟩ := h
    refine ⟨rfl, fun w hw => i1 w (List.mem_cons_of_mem _ hw), by simp at i2 ⊢; omega, fun z hz => ?_⟩
    rcases List.mem_append.mp hz with h | h
    · exact i3 z h
    · rw [Option.toList_some, List.mem_singleton] at h
      exact h ▸ py
  · obtain ⟨rfl, i1, i2, i3⟩ := i
    exact q acc (by simpa using i2) i3
theorem shaped_strs {ts : List Str} (h : ∀ t ∈ ts, Lay t) : SeqAt.shaped (.list (sD ts)) = true := by
  unfold SeqAt.shaped
  rw [PyData.canLay0, lay_all h]
  have := depth_strs ts
  simp
  omega
theorem idx_strs {ts : List Str} {a : Str} (h : a ∈ ts) : ∃ j, idxD (sD ts) (.str a) = some j ∧ j < ts.length := by
  unfold idxD
  induction ts with
  | nil => cases h
  | cons t ts ih =>
    show ∃ j, List.findIdx? _ (.str t :: sD ts) = some j ∧ _
    rw [List.findIdx?_cons, eqv_str]
    by_cases e : t = a
    · exact ⟨0, by rw [decide_eq_true e]; rfl, by simp⟩
    · rcases List.mem_cons.mp h with h | h
      · exact absurd h.symm e
      · obtain ⟨j, e2, hj⟩ := ih h
        refine ⟨j + 1, ?_, by simpa using hj⟩
        rw [decide_eq_false e, e2]
        rfl
def idx (ts : List Str) (a : Str) : Int := ((idxD (sD ts) (.str a)).getD 0 : Nat)
theorem index_pu {ts : List Str} {a : Str} {K : PyData → Prop} (hl : ∀ t ∈ ts, Lay t) (h : a ∈ ts) (k : K (.int (idx ts a))) : Pu (m1D .index (.list (sD ts)) (.str a)) K := by
  obtain ⟨j, e, hj⟩ := idx_strs h
  refine Pu.of (fun S => ?_) k
  unfold idx
  show bnd (guard (SeqAt.shaped (.str a) && SeqAt.shaped (.list (sD ts)))) (fun _ => bnd (ofO (idxD (sD ts) (.str a))) fun j => ret (PyData.int j)) S = _
  rw [shaped_str (hl a h), shaped_strs hl, e]
  rfl
theorem atI_last {α : Type} {xs : List α} (h : xs ≠ []) : ∃ x ∈ xs, L2.atI xs (-1) = some x := by
  have hp := List.length_pos_iff.mpr h
  unfold L2.atI L2.ixN
  rw [if_neg (by decide), if_pos (by omega)]
  refine ⟨xs[xs.length - 1], List.getElem_mem _, ?_⟩
  show xs[(-1 + (xs.length : Int)).toNat]? = _
  rw [show (-1 + (xs.length : Int)).toNat = xs.length - 1 by omega]
  exact List.getElem?_eq_getElem _
/-! ### links -/
def prD (p : Str × Str) : PyData := .tuple [.str p.1, .str p.2]
def LinksS (F : List Val → M Val) : Prop := ∀ (ts : List Str) (w : Str), (1 ≤ ts.length ∧ ts.length ≤ 8) → (∀ t ∈ ts, Lay t) →
  GWR F [.d (.list (sD ts)), .d (.str w)] 1000 (fun xs => ∃ rows : List (List Str), xs = rows.map (fct w) ∧ (∀ r ∈ rows, r.length = 2 ∧ ∀ t ∈ r, t ∈ ts) ∧ rows.length ≤ 2 * ts.length)
theorem links_ok {ko kr : Nat} (order : OrderS (Γ ko)) (random : RandS (Γ kr)) : LinksS ((A__law_links ko kr).run Γ gl) := by
  intro ts w ht hlay
  refine GWR.run rfl fun S i g b hi ok hb => ?_
  have hsz := szl
  ac_rfl
  refine GW.call (order (sD ts) (by rw [List.length_map]; omega)) ok hi (by rw [List.length_map]; omega) fun v g1 ok1 p => ?_
  rw [List.length_map] at ok1
  obtain ⟨ys, rfl, perm⟩ := p
  obtain ⟨os, rfl, perm2⟩ := perm_strs perm
  have hol : os.length = ts.length := perm2.length_eq
  have hom : ∀ o ∈ os, o ∈ ts := fun o h => perm2.mem_iff.mp h
  have holay : ∀ o ∈ os, Lay o := fun o h => hlay o (hom o h)
  ac_rfl
  refine GW.call (random 5 ⟨by omega, by omega⟩) ok1 hi (by omega) fun v g2 ok2 p => ?_
  obtain ⟨r, rfl, r0, r1⟩ := p
  have hol1 : (sD os).length = ts.length := by rw [List.length_map]; exact hol
  have hne : sD os ≠ [] := fun e => by rw [e] at hol1; simp at hol1; omega
  have at0 : ∀ j : Nat, j < ts.length → ∃ o ∈ os, L2.atI (sD os) (j : Int) = some (.str o) := fun j hj => by
    obtain ⟨x, hx, e⟩ := atI_some (xs := sD os) (r := j) (by omega) (by omega)
    obtain ⟨o, ho, rfl⟩ := List.mem_map.mp hx
    exact ⟨o, ho, e⟩
  ac_rfl
  refine lc_pureM (fun y => ∃ p : Str × Str, y = prD p ∧ p.1 ∈ ts ∧ p.2 ∈ ts) here_none (fun v hv => ?_) fun ys hys hP => ?_
  · obtain ⟨j, hj, rfl⟩ := mem_rng hv
    obtain ⟨o1, h1, e1⟩ := at0 j (by omega)
    obtain ⟨o2, h2, e2⟩ := at0 (j + 1) (by omega)
    refine Wp.lcB ?_
    ac_rfl
    refine Opt.of e1 ?_
    ac_rfl
    refine Opt.of e2 ?_
    ac_rfl
    exact ⟨_, rfl, rfl, (o1, o2), rfl, hom _ h1, hom _ h2⟩
  rw [rng_len] at hys
  have prs_of : ∀ {ys : List PyData}, (∀ y ∈ ys, ∃ p : Str × Str, y = prD p ∧ p.1 ∈ ts ∧ p.2 ∈ ts) → ∃ prs : List (Str × Str), ys = prs.map prD ∧ ∀ p ∈ prs, p.1 ∈ ts ∧ p.2 ∈ ts := by
    intro ys h
    induction ys with
    | nil => exact ⟨[], rfl, by simp⟩
    | cons y ys ih =>
      obtain ⟨p, rfl, hp⟩ := h y (List.mem_cons_self ..)
      obtain ⟨prs, rfl, hq⟩ := ih fun z hz => h z (List.mem_cons_of_mem _ hz)
      exact ⟨p :: prs, rfl, fun q hq' => by
        rcases List.mem_cons.mp hq' with rfl | h
        · exact hp
        · exact hq q h⟩
  obtain ⟨prs, rfl, hprs⟩ := prs_of hP
  rw [List.length_map] at hys
  have hl0 : prs.length ≤ ts.length - 1 := by omega
  refine ⟨by rw [List.length_map]; omega, ?_⟩
  obtain ⟨olast, hol2, elast⟩ := atI_last hne
  obtain ⟨ol, hol3, rfl⟩ := List.mem_map.mp hol2
  obtain ⟨of, hof, efirst⟩ := at0 0 (by omega)
  let J (n : Nat) : Mp.Env → Store → Prop := fun env T => ∃ (prs : List (Str × Str)) (o1 o2 o3 : Option Val), env = [some (.c i), some (.d (.list (sD ts))), some (.d (.str w)), some (.d (.list (sD os))), some (.d (.int r)), some (.d (.list (prs.map prD))), o1, o2, o3] ∧ T = cfg S i g2 [] ∧ (∀ p ∈ prs, p.1 ∈ ts ∧ p.2 ∈ ts) ∧ prs.length ≤ n
  ac_rfl
  refine Bra.join (J ts.length) ?_ (fun _ => ?_) fun _ => ?_
  rotate_left
  · ac_rfl
    refine Opt.of elast ?_
    ac_rfl
    refine Opt.of efirst ?_
    ac_rfl
    refine ⟨by simp; omega, ?_⟩
    ac_rfl
    refine ⟨prs ++ [(ol, of)], _, _, _, by rw [List.map_append]; rfl, rfl, fun p hp => ?_, by simp; omega⟩
    rcases List.mem_append.mp hp with h | h
    · exact hprs p h
    · rw [List.mem_singleton] at h
      subst h
      exact ⟨hom _ hol3, hom _ hof⟩
  · ac_rfl
    exact ⟨prs, _, _, _, rfl, rfl, hprs, by omega⟩
  rintro env T ⟨prs, o1, o2, o3, rfl, rfl, hprs, hlen⟩
  ac_rfl
  refine Bra.join (J ts.length) ?_ (fun _ => ?_) fun _ => ?_
  rotate_left
  · ac_rfl
    have hpl : (prs.map prD).length ≤ 8 := by rw [List.length_map]; omega
    refine lc_filterH (as := prs) prD (fun p => !decide (idx os p.1 = ((sD os).length : Int) / 2 - 1)) here_none (fun p hp => ?_) ?_
    · refine Wp.lcB ?_
      ac_rfl
      refine index_pu holay (perm2.mem_iff.mpr (hprs p hp).1) ?_
      ac_rfl
      refine Bra.both (fun e => ?_) fun e => ?_
      · ac_rfl
        exact ⟨(if_pos e).symm, rfl⟩
      · ac_rfl
        exact ⟨(if_neg (by rw [e]; decide)).symm, rfl⟩
    · have : (prs.filter (fun p => !decide (idx os p.1 = ((sD os).length : Int) / 2 - 1))).length ≤ prs.length := List.length_filter_le _ _
      refine ⟨by rw [List.length_map]; omega, ?_⟩
      ac_rfl
      exact ⟨_, _, _, _, rfl, rfl, fun p hp => hprs p (List.mem_filter.mp hp).1, by omega⟩
  · ac_rfl
    exact ⟨prs, _, _, _, rfl, rfl, hprs, by omega⟩
  rintro env T ⟨prs, o1, o2, o3, rfl, rfl, hprs, hlen⟩
  ac_rfl
  refine Bra.join (J (2 * ts.length)) ?_ (fun _ => ?_) fun _ => ?_
  rotate_left
  · ac_rfl
    refine lc_mapH (as := prs) prD (fun p => prD (p.2, p.1)) here_none (fun p hp => ?_) ?_
    · refine Wp.lcB ?_
      ac_rfl
    · refine ⟨by rw [List.length_map]; omega, ?_⟩
      ac_rfl
      refine ⟨by rw [List.length_append, List.length_map, List.length_map]; omega, ?_⟩
      ac_rfl
      refine ⟨prs ++ prs.map fun p => (p.2, p.1), o1, o2, o3, ?_, rfl, fun p hp => ?_, ?_⟩
      · rw [List.map_append, List.map_map]
        rfl
      · rcases List.mem_append.mp hp with h | h
        · exact hprs p h
        · obtain ⟨q, hq, rfl⟩ := List.mem_map.mp h
          exact ⟨(hprs q hq).2, (hprs q hq).1⟩
      · rw [List.length_append, List.length_map]
        omega
  · ac_rfl
    exact ⟨prs, _, _, _, rfl, rfl, hprs, by omega⟩
  rintro env T ⟨prs, o1, o2, o3, rfl, rfl, hprs, hlen⟩
  ac_rfl
  refine Bra.join (J (2 * ts.length)) ?_ (fun _ => ?_) fun _ => ?_
  rotate_left
  · ac_rfl
    have hcut : cutD (sD os) (some 1) none = sD (os.drop 1) := by
      rw [cut_from (by decide)]
      exact List.map_drop.symm
    rw [hcut]
    refine lc_mapH (as := os.drop 1) PyData.str (fun o => prD (of, o)) here_none (fun o ho => ?_) ?_
    · refine Wp.lcB ?_
      ac_rfl
      refine Opt.of efirst ?_
      ac_rfl
    · refine ⟨by rw [List.length_map, List.length_drop]; omega, ?_⟩
      ac_rfl
      refine ⟨(os.drop 1).map fun o => (of, o), o1, o2, o3, ?_, rfl, fun p hp => ?_, ?_⟩
      · rw [List.map_map]
        rfl
      · obtain ⟨o, ho, rfl⟩ := List.mem_map.mp hp
        exact ⟨hom _ hof, hom _ (List.mem_of_mem_drop ho)⟩
      · rw [List.length_map, List.length_drop]
        omega
  · ac_rfl
    exact ⟨prs, _, _, _, rfl, rfl, hprs, by omega⟩
  rintro env T ⟨prs, o1, o2, o3, rfl, rfl, hprs, hlen⟩
  ac_rfl
  refine lc_mapH (as := prs) prD (fun p => fct w [p.1, p.2]) here_none (fun p hp => ?_) ?_
  · refine Wp.lcB ?_
    ac_rfl
  · refine ⟨by rw [List.length_map]; omega, ?_⟩
    ac_rfl
    exact EndR.c (ok2.le (by omega)) ⟨prs.map fun p => [p.1, p.2], by rw [List.map_map]; rfl, fun r hr => by
      obtain ⟨p, hp, rfl⟩ := List.mem_map.mp hr
      refine ⟨rfl, fun t ht => ?_⟩
      simp at ht
      rcases ht with rfl | rfl
      · exact (hprs p hp).1
      · exact (hprs p hp).2, by rw [List.length_map]; exact hlen⟩
end Gs
end
section
set_option autoImplicit false
set_option linter.all false
set_option maxRecDepth 100000
set_option maxHeartbeats 1000000
/-! Gs6: facts in order, each once. -/
namespace Gs
open PySem Mp Mp.Ww Gd
local macro_rules | `(tactic| ac_rfl) => `(tactic| ((repeat ((conv => whnf); first | refine XE.st _ ?_ | refine XD.st _ ?_ | refine XV.st _ ?_ | refine XA.st _ ?_ | refine XO.st _ ?_ | refine XI.st _ ?_ | refine XS.st _ ?_ | refine XSs.st _ ?_ | refine Bra.t rfl ?_ | refine Bra.f rfl ?_ | refine Opt.of rfl ?_ | refine Opt.of atI_z ?_ | refine Opt.of atI_o ?_ | refine Opt.glb (by with_reducible assumption) ?_ | refine cm_int ?_ | refine cm_is ?_ | refine cm_eq ?_ | refine cm_ne ?_ | refine cm_gen ?_ | refine look_of (cfg_gen (by assumption)) ?_ | refine look_of (cfg_loc rfl) ?_ | refine And.intro (by first | with_reducible assumption | exact rfl | exact Nat.le_of_ble_eq_true rfl | exact ⟨rfl, Nat.le_of_ble_eq_true rfl⟩ | decide | omega | (have hsz := szl; omega)) ?_ | rw [cfg_set (by assumption)] | rw [cfg_setloc] | rw [cfg_push])); (try (conv => whnf))))
/-- a fact, its word first -/
def factD (f : List Str) : PyData := .tuple (sD f)
theorem eqvAll_strs : ∀ (a b : List Str), PyData.eqvAll (sD a) (sD b) = decide (a = b)
  | [], [] => rfl
  | [], b :: bs => by
    show PyData.eqvAll [] (.str b :: sD bs) = _
    rw [PyData.eqvAll]
    · simp
    all_goals simp
  | a :: as, [] => by
    show PyData.eqvAll (.str a :: sD as) [] = _
    rw [PyData.eqvAll]
    · simp
    all_goals simp
  | a :: as, b :: bs => by
    show PyData.eqvAll (.str a :: sD as) (.str b :: sD bs) = _
    rw [PyData.eqvAll, eqv_str, eqvAll_strs as bs]
    by_cases h : a = b <;> by_cases h' : as = bs <;> simp [h, h']
theorem eqv_fact (a b : List Str) : PyData.eqv (factD a) (factD b) = decide (a = b) := by
  show PyData.eqv (.tuple (sD a)) (.tuple (sD b)) = _
  rw [PyData.eqv, eqvAll_strs]
/-- each once -/
def nubF : List (List Str) → List (List Str) → List (List Str)
  | acc, [] => acc
  | acc, x :: xs => if x ∈ acc then nubF acc xs else nubF (acc ++ [x]) xs
theorem any_fact (acc : List (List Str)) (x : List Str) : ((acc.map factD).any fun y => PyData.eqv y (factD x)) = decide (x ∈ acc) := by
  rw [List.any_map]
  induction acc with
  | nil => simp
  | cons a acc ih =>
    rw [List.any_cons, ih]
    show (PyData.eqv (factD a) (factD x) || _) = _
    rw [eqv_fact]
    by_cases h : a = x
    · simp [h]
    · have h' : ¬ x = a := fun e => h e.symm
      simp [h, h']
theorem nub_fact : ∀ (xs acc : List (List Str)), nubD (acc.map factD) (xs.map factD) = (nubF acc xs).map factD
  | [], acc => rfl
  | x :: xs, acc => by
    rw [List.map_cons, nubD, nubF, any_fact]
    by_cases h : x ∈ acc
    · rw [if_pos (decide_eq_true h), if_pos h, nub_fact xs acc]
    · rw [if_neg (by simpa using h), if_neg h, ← nub_fact xs (acc ++ [x])]
      rw [List.map_append]
      rfl
theorem nubF_mem {x : List Str} : ∀ {xs acc : List (List Str)}, x ∈ nubF acc xs ↔ x ∈ acc ∨ x ∈ xs
  | [], acc => by rw [nubF]; simp
  | y :: ys, acc => by
    rw [nubF]
    split
    · rename_i h
      rw [nubF_mem]
      constructor
      · rintro (h | h)
        · exact .inl h
        · exact .inr (List.mem_cons_of_mem _ h)
      · rintro (h' | h')
        · exact .inl h'
        · rcases List.mem_cons.mp h' with rfl | h'
          · exact .inl h
          · exact .inr h'
    · rw [nubF_mem]
      simp [or_assoc]
theorem nubF_nodup : ∀ {xs acc : List (List Str)}, acc.Nodup → (nubF acc xs).Nodup
  | [], acc, h => h
  | y :: ys, acc, h => by
    rw [nubF]
    split
    · exact nubF_nodup h
    · rename_i q
      refine nubF_nodup ?_
      rw [List.nodup_append]
      refine ⟨h, by simp, fun a ha b hb => ?_⟩
      rw [List.mem_singleton] at hb
      subst hb
      exact fun e => q (e ▸ ha)
theorem nodup_len {α : Type} [DecidableEq α] : ∀ {l u : List α}, l.Nodup → (∀ x ∈ l, x ∈ u) → l.length ≤ u.length
  | [], _, _, _ => Nat.zero_le _
  | x :: l, u, h, s => by
    rw [List.nodup_cons] at h
    have hx := s x (List.mem_cons_self ..)
    have ih := nodup_len (l := l) (u := u.erase x) h.2 fun y hy => (List.mem_erase_of_ne (fun e => h.1 (by rw [← e]; exact hy))).mpr (s y (List.mem_cons_of_mem _ hy))
    rw [List.length_erase_of_mem hx] at ih
    have := List.length_pos_of_mem hx
    rw [List.length_cons]
    omega
/-! ### the order -/
def ltF (a b : List Str) : Bool := W.dataLt (factD a) (factD b)
def leF (a b : List Str) : Bool := W.dataLe false id (factD a) (factD b)
theorem leF_lt (a b : List Str) : leF a b = !ltF b a := rfl
theorem toks_inj : ∀ {a b : List Str}, W.keyToksAll (sD a) = W.keyToksAll (sD b) → a = b
  | [], [], _ => rfl
  | [], b :: bs, h => by
    have h' : [Sum.inl 0] = W.keyToksAll (.str b :: sD bs) := h
    rw [W.keyToksAll] at h'
    simp at h'
  | a :: as, [], h => by
    have h' : W.keyToksAll (.str a :: sD as) = [Sum.inl 0] := h
    rw [W.keyToksAll] at h'
    simp at h'
  | a :: as, b :: bs, h => by
    have h' : W.keyToksAll (.str a :: sD as) = W.keyToksAll (.str b :: sD bs) := h
    rw [W.keyToksAll, W.keyToksAll, W.keyToks, W.keyToks] at h'
    simp only [List.cons_append, List.nil_append, List.cons.injEq, Sum.inr.injEq, true_and] at h'
    rw [W.str_of_cps h'.1, toks_inj h'.2]
theorem ltF_lex (a b : List Str) : ltF a b = PyProof.Rows.lexLt PyProof.Rows.itemOrd (W.keyToksAll (sD a)) (W.keyToksAll (sD b)) := rfl
theorem ltF_total {a b : List Str} (h1 : ltF a b = false) (h2 : ltF b a = false) : a = b := toks_inj (PyProof.Rows.lex_total _ _ h1 h2)
theorem ltF_trans {a b c : List Str} (h1 : ltF a b = true) (h2 : ltF b c = true) : ltF a c = true := (PyProof.Rows.listOrd PyProof.Rows.itemOrd).trans _ _ _ h1 h2
theorem ltF_irrefl (a : List Str) : ltF a a = false := (PyProof.Rows.listOrd PyProof.Rows.itemOrd).irrefl _
theorem leF_trans (a b c : List Str) (h1 : leF a b = true) (h2 : leF b c = true) : leF a c = true := by
  rw [leF_lt, Bool.not_eq_true'] at *
  cases q : ltF c a with
  | false => rfl
  | true =>
    rcases (PyProof.Rows.listOrd PyProof.Rows.itemOrd).negTrans (W.keyToksAll (sD c)) (W.keyToksAll (sD b)) (W.keyToksAll (sD a)) q with h | h
    · exact absurd (h.symm.trans h2) (by decide)
    · exact absurd (h.symm.trans h1) (by decide)
theorem leF_total (a b : List Str) : (leF a b || leF b a) = true := by
  rw [leF_lt, leF_lt]
  cases h : ltF b a with
  | false => rfl
  | true =>
    cases h' : ltF a b with
    | false => rfl
    | true =>
      have := ltF_trans h h'
      rw [ltF_irrefl] at this
      cases this
/-- in order, each once -/
def Asc (gs : List (List Str)) : Prop := gs.Pairwise fun a b => ltF a b = true
def sortF (fs : List (List Str)) : List (List Str) := (nubF [] fs).mergeSort leF
theorem sortF_mem {fs : List (List Str)} {f : List Str} : f ∈ sortF fs ↔ f ∈ fs := by
  unfold sortF
  rw [(List.mergeSort_perm _ _).mem_iff, nubF_mem]
  simp
theorem sortF_asc (fs : List (List Str)) : Asc (sortF fs) := by
  unfold Asc sortF
  have h1 := List.pairwise_mergeSort (le := leF) leF_trans leF_total (nubF [] fs)
  have h2 : ((nubF [] fs).mergeSort leF).Nodup := (List.mergeSort_perm _ _).nodup_iff.mpr (nubF_nodup List.nodup_nil)
  refine List.Pairwise.imp₂ (fun a b h h' => ?_) h1 h2
  cases q : ltF a b with
  | true => rfl
  | false =>
    rw [leF_lt, Bool.not_eq_true'] at h
    exact absurd (ltF_total q h) h'
theorem sortF_len {fs u : List (List Str)} (h : ∀ f ∈ fs, f ∈ u) : (nubF [] fs).length ≤ u.length := nodup_len (nubF_nodup List.nodup_nil) fun x hx => h x (by simpa using nubF_mem.mp hx)
theorem Asc.take {gs : List (List Str)} (h : Asc gs) (n : Nat) : Asc (gs.take n) := List.Pairwise.sublist (List.take_sublist n gs) h
end Gs
end
section
set_option autoImplicit false
set_option linter.all false
set_option maxRecDepth 100000
set_option maxHeartbeats 1000000
/-! Gs7: sorted(set(facts)); worlds. -/
namespace Gs
open PySem Mp Mp.Ww Gd
local macro_rules | `(tactic| ac_rfl) => `(tactic| ((repeat ((conv => whnf); first | refine XE.st _ ?_ | refine XD.st _ ?_ | refine XV.st _ ?_ | refine XA.st _ ?_ | refine XO.st _ ?_ | refine XI.st _ ?_ | refine XS.st _ ?_ | refine XSs.st _ ?_ | refine Bra.t rfl ?_ | refine Bra.f rfl ?_ | refine Opt.of rfl ?_ | refine Opt.of atI_z ?_ | refine Opt.of atI_o ?_ | refine Opt.glb (by with_reducible assumption) ?_ | refine cm_int ?_ | refine cm_is ?_ | refine cm_eq ?_ | refine cm_ne ?_ | refine cm_gen ?_ | refine look_of (cfg_gen (by assumption)) ?_ | refine look_of (cfg_loc rfl) ?_ | refine And.intro (by first | with_reducible assumption | exact rfl | exact Nat.le_of_ble_eq_true rfl | exact ⟨rfl, Nat.le_of_ble_eq_true rfl⟩ | decide | omega | (have hsz := szl; omega)) ?_ | rw [cfg_set (by assumption)] | rw [cfg_setloc] | rw [cfg_push])); (try (conv => whnf))))
variable {Γ : Nat → List Val → M Val} {gl : List PyData} {X : XT}
theorem alike_strs : ∀ (a b : List Str), W.alikeAll (sD a) (sD b) = true
  | [], _ => by
    show W.alikeAll [] _ = true
    rw [W.alikeAll]
  | a :: as, [] => by
    show W.alikeAll (.str a :: sD as) [] = true
    rw [W.alikeAll]
  | a :: as, b :: bs => by
    show W.alikeAll (.str a :: sD as) (.str b :: sD bs) = true
    rw [W.alikeAll, alike_strs as bs, W.alike]
    rfl
theorem alike_fact (a b : List Str) : W.alike (factD a) (factD b) = true := by
  show W.alike (.tuple (sD a)) (.tuple (sD b)) = true
  rw [W.alike, alike_strs]
theorem kOks_strs : ∀ (a : List Str), kOks (sD a) = true
  | [] => rfl
  | a :: as => by
    show kOks (.str a :: sD as) = true
    rw [kOks, kOks_strs as]
    rfl
theorem depth_fact (f : List Str) : (factD f).depth ≤ 2 := depth_strs f
theorem noDict_fact {f : List Str} (h : ∀ t ∈ f, Lay t) : noDict (factD f) = true := by
  show PyData.canLay0 (.tuple (sD f)) = true
  rw [PyData.canLay0]
  exact lay_all h
/-- what may be sorted of facts -/
structure Facts (fs : List (List Str)) : Prop where
  ne : ∀ f ∈ fs, f ≠ []
  lay : ∀ f ∈ fs, ∀ t ∈ f, Lay t
theorem sort_guard {fs : List (List Str)} (h : Facts fs) (hl : fs.length ≤ sizeLine) : (allAlike (fs.map factD) && sortable (fs.map factD) && fitL (fs.map factD) && ((fs.map factD).all fun x => noDict x && decide (x.depth ≤ 60))) = true := by
  have h1 : allAlike (fs.map factD) = true := by
    unfold allAlike
    rw [List.all_eq_true]
    intro a ha
    rw [List.all_eq_true]
    intro b hb
    obtain ⟨a, _, rfl⟩ := List.mem_map.mp ha
    obtain ⟨b, _, rfl⟩ := List.mem_map.mp hb
    exact alike_fact a b
  have h2 : sortable (fs.map factD) = true := by
    unfold sortable
    rw [Bool.or_eq_true]
    refine .inl ?_
    rw [List.all_eq_true]
    intro a ha
    obtain ⟨a, hm, rfl⟩ := List.mem_map.mp ha
    have := h.ne a hm
    cases a with
    | nil => exact absurd rfl this
    | cons x xs => rfl
  have h3 : fitL (fs.map factD) = true := by
    unfold fitL
    rw [List.length_map]
    exact decide_eq_true hl
  have h4 : ((fs.map factD).all fun x => noDict x && decide (x.depth ≤ 60)) = true := by
    rw [List.all_eq_true]
    intro a ha
    obtain ⟨a, hm, rfl⟩ := List.mem_map.mp ha
    rw [noDict_fact (h.lay a hm)]
    have := depth_fact a
    simp
    omega
  rw [h1, h2, h3, h4]
  rfl
theorem sort_map (fs : List (List Str)) : (fs.map factD).mergeSort (W.dataLe false id) = (fs.mergeSort leF).map factD :=
  (List.map_mergeSort (f := factD) (r := leF) (s := W.dataLe false id) (l := fs) fun a _ b _ => rfl).symm
theorem sset_pu {fs : List (List Str)} {K : PyData → Prop} (h : Facts fs) (hl : fs.length ≤ sizeLine) (few : (nubF [] fs).length < 64) (k : K (.list ((sortF fs).map factD))) : Pu (b1D .sset (.list (fs.map factD))) K := by
  refine Pu.of (fun S => ?_) k
  have e : nubD [] (fs.map factD) = (nubF [] fs).map factD := nub_fact fs []
  have g1 : setOk (fs.map factD) = true := by
    unfold setOk
    rw [Bool.and_eq_true, Bool.and_eq_true]
    refine ⟨⟨?_, ?_⟩, ?_⟩
    · rw [List.all_eq_true]
      intro a ha
      obtain ⟨a, hm, rfl⟩ := List.mem_map.mp ha
      show (kOks (sD a) && decide ((factD a).depth ≤ 8)) = true
      rw [kOks_strs]
      have := depth_fact a
      simp
      omega
    · unfold fitL
      rw [List.length_map]
      exact decide_eq_true hl
    · rw [e, List.length_map]
      exact decide_eq_true few
  have hn : Facts (nubF [] fs) := ⟨fun f hf => h.ne f (by simpa using nubF_mem.mp hf), fun f hf => h.lay f (by simpa using nubF_mem.mp hf)⟩
  show bnd (guard (setOk (fs.map factD))) (fun _ => sortD (nubD [] (fs.map factD))) S = _
  rw [g1, e]
  show bnd (guard (allAlike ((nubF [] fs).map factD) && sortable ((nubF [] fs).map factD) && fitL ((nubF [] fs).map factD) && (((nubF [] fs).map factD).all fun x => noDict x && decide (x.depth ≤ 60)))) (fun _ => ret (PyData.list (((nubF [] fs).map factD).mergeSort (W.dataLe false id)))) S = _
  rw [sort_guard hn (by have := szl; omega), sort_map]
  rfl
/-- sorted(facts) -/
theorem sorted_pu {fs : List (List Str)} {K : PyData → Prop} (h : Facts fs) (hl : fs.length ≤ sizeLine) (k : K (.list ((fs.mergeSort leF).map factD))) : Pu (b1D .sorted (.list (fs.map factD))) K := by
  refine Pu.of (fun S => ?_) k
  show bnd (guard (allAlike (fs.map factD) && sortable (fs.map factD) && fitL (fs.map factD) && ((fs.map factD).all fun x => noDict x && decide (x.depth ≤ 60)))) (fun _ => ret (PyData.list ((fs.map factD).mergeSort (W.dataLe false id)))) S = _
  rw [sort_guard h hl, sort_map]
  rfl
/-! ### facts of relations over things -/
def FactOf (rel : List (Str × Nat)) (ts : List Str) (f : List Str) : Prop := ∃ w r p, f = w :: r ∧ (w, p) ∈ rel ∧ r.length = p ∧ ∀ t ∈ r, t ∈ ts
def three (fs : List (List Str)) : Nat := (fs.filter fun f => decide (f.length = 4)).length
/-- all facts that are not of three things -/
def univ (rel : List (Str × Nat)) (ts : List Str) : List (List Str) := rel.flatMap fun p => if p.2 = 3 then [] else (rowsL ts p.2).map (p.1 :: ·)
theorem univ_len {rel : List (Str × Nat)} (hr : rel ∈ RELS) {ts : List Str} (ht : ts.length ≤ 4) : (univ rel ts).length ≤ if ∃ p ∈ rel, p.2 = 3 then 20 else 36 := by
  have key : ∀ rel : List (Str × Nat), (univ rel ts).length = (rel.map fun p => if p.2 = 3 then 0 else ts.length ^ p.2).sum := by
    intro rel
    unfold univ
    rw [List.length_flatMap]
    congr 1
    refine List.map_congr_left fun p _ => ?_
    split
    · rfl
    · rw [List.length_map, rowsL_len]
  rw [key]
  have hp : ts.length = 0 ∨ ts.length = 1 ∨ ts.length = 2 ∨ ts.length = 3 ∨ ts.length = 4 := by omega
  simp only [RELS, List.mem_cons, List.not_mem_nil, or_false] at hr
  rcases hp with h | h | h | h | h <;> rw [h] <;> rcases hr with rfl | rfl | rfl | rfl | rfl | rfl <;> decide
theorem univ_mem {rel : List (Str × Nat)} {ts : List Str} {f : List Str} (h : FactOf rel ts f) (h3 : f.length ≠ 4) : f ∈ univ rel ts := by
  obtain ⟨w, r, p, rfl, hm, hl, ht⟩ := h
  unfold univ
  rw [List.mem_flatMap]
  refine ⟨(w, p), hm, ?_⟩
  rw [if_neg (by rw [List.length_cons] at h3; show p ≠ 3; omega)]
  exact List.mem_map.mpr ⟨r, rowsL_mem.mpr ⟨hl, ht⟩, rfl⟩
theorem few_facts {rel : List (Str × Nat)} (hr : rel ∈ RELS) {ts : List Str} (ht : ts.length ≤ 4) {fs : List (List Str)} (h : ∀ f ∈ fs, FactOf rel ts f) : (nubF [] fs).length ≤ max 36 (20 + three fs) := by
  have := sortF_len (fs := fs) (u := univ rel ts ++ fs.filter fun f => decide (f.length = 4)) fun f hf => by
    rw [List.mem_append]
    by_cases e : f.length = 4
    · exact .inr (List.mem_filter.mpr ⟨hf, decide_eq_true e⟩)
    · exact .inl (univ_mem (h f hf) e)
  rw [List.length_append] at this
  have q := univ_len hr ht
  have h3 : (fs.filter fun f => decide (f.length = 4)).length = three fs := rfl
  by_cases e : ∃ p ∈ rel, p.2 = 3
  · rw [if_pos e] at q
    omega
  · rw [if_neg e] at q
    have z : three fs = 0 := by
      unfold three
      rw [List.length_eq_zero_iff, List.filter_eq_nil_iff]
      intro f hf h4
      obtain ⟨w, r, p, rfl, hm, hl, _⟩ := h f hf
      have h4' : r.length + 1 = 4 := by simpa using h4
      exact e ⟨(w, p), hm, by show p = 3; omega⟩
    omega
theorem three_sub {a b : List (List Str)} (h : a.Sublist b) : three a ≤ three b := (h.filter _).length_le
theorem three_append (a b : List (List Str)) : three (a ++ b) = three a + three b := by unfold three; rw [List.filter_append, List.length_append]
theorem three_nub : ∀ (xs acc : List (List Str)), three (nubF acc xs) ≤ three acc + three xs
  | [], acc => by rw [nubF]; simp [three]
  | x :: xs, acc => by
    have e : three (x :: xs) = three [x] + three xs := three_append [x] xs
    rw [nubF]
    split
    · have := three_nub xs acc
      omega
    · have := three_nub xs (acc ++ [x])
      rw [three_append] at this
      omega
theorem three_sort (fs : List (List Str)) : three (sortF fs) ≤ three fs := by
  have h : three (sortF fs) = three (nubF [] fs) := by
    unfold three sortF
    exact ((List.mergeSort_perm _ _).filter _).length_eq
  rw [h]
  have := three_nub fs []
  simpa [three] using this
/-! ### worlds -/
def worldD (ts : List Str) (gs : List (List Str)) : PyData := .tuple [.list (sD ts), .list (gs.map factD)]
/-- a world's facts, at most c of them of three things -/
structure WFacts (rel : List (Str × Nat)) (ts : List Str) (gs : List (List Str)) (c : Nat) : Prop where
  asc : Asc gs
  len : gs.length ≤ 40
  of : ∀ f ∈ gs, FactOf rel ts f
  three : three gs ≤ c
theorem rels_lay : ∀ rel ∈ RELS, ∀ p ∈ rel, Lay p.1 := by
  intro rel hr p hp
  have : (RELS.all fun rel => rel.all fun p => PyData.canLay0 (.str p.1)) = true := by decide +kernel
  rw [List.all_eq_true] at this
  have := this rel hr
  rw [List.all_eq_true] at this
  exact this p hp
theorem FactOf.facts {rel : List (Str × Nat)} (hr : rel ∈ RELS) {ts : List Str} (hl : ∀ t ∈ ts, Lay t) {fs : List (List Str)} (h : ∀ f ∈ fs, FactOf rel ts f) : Facts fs := by
  refine ⟨fun f hf e => ?_, fun f hf t ht => ?_⟩
  · obtain ⟨w, r, p, rfl, _⟩ := h f hf
    cases e
  · obtain ⟨w, r, p, rfl, hm, _, hr'⟩ := h f hf
    rcases List.mem_cons.mp ht with rfl | ht
    · exact rels_lay rel hr _ hm
    · exact hl t (hr' t ht)
theorem rels_shape : ∀ rel ∈ RELS, ∃ w1 w2 w3 p3, rel = [(w1, 2), (w2, 1), (w3, p3)] ∧ p3 ≤ 3 := by
  intro rel hr
  simp only [RELS, List.mem_cons, List.not_mem_nil, or_false] at hr
  rcases hr with rfl | rfl | rfl | rfl | rfl | rfl <;> exact ⟨_, _, _, _, rfl, by decide⟩
end Gs
end
section
set_option autoImplicit false
set_option linter.all false
set_option maxRecDepth 100000
set_option maxHeartbeats 1000000
/-! Gs8: worlds drawn. -/
namespace Gs
open PySem Mp Mp.Ww Gd
local macro_rules | `(tactic| ac_rfl) => `(tactic| ((repeat ((conv => whnf); first | refine XE.st _ ?_ | refine XD.st _ ?_ | refine XV.st _ ?_ | refine XA.st _ ?_ | refine XO.st _ ?_ | refine XI.st _ ?_ | refine XS.st _ ?_ | refine XSs.st _ ?_ | refine Bra.t rfl ?_ | refine Bra.f rfl ?_ | refine Opt.of rfl ?_ | refine Opt.of atI_z ?_ | refine Opt.of atI_o ?_ | refine Opt.glb (by with_reducible assumption) ?_ | refine cm_int ?_ | refine cm_is ?_ | refine cm_eq ?_ | refine cm_ne ?_ | refine cm_gen ?_ | refine look_of (cfg_gen (by assumption)) ?_ | refine look_of (cfg_loc rfl) ?_ | refine And.intro (by first | with_reducible assumption | exact rfl | exact Nat.le_of_ble_eq_true rfl | exact ⟨rfl, Nat.le_of_ble_eq_true rfl⟩ | decide | omega | (have hsz := szl; omega)) ?_ | rw [cfg_set (by assumption)] | rw [cfg_setloc] | rw [cfg_push])); (try (conv => whnf))))
variable {Γ : Nat → List Val → M Val} {gl : List PyData} {X : XT}
/-- a list, wherever it is -/
def ListAt (S : Store) (v : Val) (xs : List PyData) : Prop := v = .d (.list xs) ∨ ∃ a, v = .c a ∧ S[a]? = some (some (.l xs))
theorem ListAt.pk {S : Store} {v : Val} {xs : List PyData} {K : PyData → Prop} (h : ListAt S v xs) (k : K (.list xs)) : pk v S K := by
  rcases h with rfl | ⟨a, rfl, e⟩
  · exact k
  · exact look_of e k
theorem factD_fct (w : Str) (r : List Str) : fct w r = factD (w :: r) := rfl
theorem rows_fact {rel : List (Str × Nat)} {ts : List Str} {w : Str} {p : Nat} (h : (w, p) ∈ rel) {rows : List (List Str)} (hr : ∀ r ∈ rows, r.length = p ∧ ∀ t ∈ r, t ∈ ts) : ∀ f ∈ rows.map (w :: ·), FactOf rel ts f := by
  intro f hf
  obtain ⟨r, hr', rfl⟩ := List.mem_map.mp hf
  exact ⟨w, r, p, rfl, h, (hr r hr').1, (hr r hr').2⟩
theorem three_rows {ts : List Str} {w : Str} {p : Nat} {rows : List (List Str)} (hr : ∀ r ∈ rows, r.length = p ∧ ∀ t ∈ r, t ∈ ts) (h3 : p = 3 → rows.length ≤ 3) : three (rows.map (w :: ·)) ≤ if p = 3 then 3 else 0 := by
  split
  · rename_i e
    have := h3 e
    have q : three (rows.map (w :: ·)) ≤ (rows.map (w :: ·)).length := List.length_filter_le _ _
    rw [List.length_map] at q
    omega
  · rename_i e
    unfold three
    rw [Nat.le_zero, List.length_eq_zero_iff, List.filter_eq_nil_iff]
    intro f hf
    obtain ⟨r, hr', rfl⟩ := List.mem_map.mp hf
    have := (hr r hr').1
    simp
    omega
theorem rows_few {ts : List Str} {p : Nat} {rows : List (List Str)} (ht : ts.length ≤ 4) (hp : p ≤ 3) (h3 : p = 3 → rows.length ≤ 3) (hn : p ≠ 3 → rows.length ≤ ts.length ^ p) : rows.length ≤ 16 := by
  by_cases e3 : p = 3
  · have := h3 e3
    omega
  · have q1 := hn e3
    have : p ≤ 2 := by omega
    have q2 : ts.length ^ p ≤ 16 := Nat.le_trans (Nat.pow_le_pow_left ht p) (Nat.le_trans (Nat.pow_le_pow_right (by decide) this) (by decide))
    omega
/-- at most so many facts of three things that relations bring -/
def cnt3 (rs : List (Str × Nat)) : Nat := (rs.map fun p => if p.2 = 3 then 3 else 0).sum
theorem cnt3_rels : ∀ rel ∈ RELS, cnt3 rel ≤ 3 := by
  intro rel hr
  simp only [RELS, List.mem_cons, List.not_mem_nil, or_false] at hr
  rcases hr with rfl | rfl | rfl | rfl | rfl | rfl <;> decide
abbrev relsD (rel : List (Str × Nat)) : PyData := .list (rel.map relD)
def WorldS (F : List Val → M Val) : Prop := ∀ (ts : List Str) (rel : List (Str × Nat)), rel ∈ RELS → (1 ≤ ts.length ∧ ts.length ≤ 4) → (∀ t ∈ ts, Lay t) →
  GW F [.d (.list (sD ts)), .d (relsD rel)] 10000 (fun v => ∃ gs, v = .d (worldD ts gs) ∧ WFacts rel ts gs 3)
theorem world_ok {ks kr kp kl : Nat} (spread : SpreadS (Γ ks)) (random : RandS (Γ kr)) (pick : PickS (Γ kp)) (links : LinksS (Γ kl)) : WorldS ((A__law_world ks kr kp kl).run Γ gl) := by
  intro ts rel hrel ht hlay
  obtain ⟨w1, w2, w3, p3, rfl, hp3⟩ := rels_shape rel hrel
  have hne : sD ts ≠ [] := fun e => by rw [List.map_eq_nil_iff] at e; rw [e] at ht; exact absurd ht.1 (by decide)
  have hsz := szl
  have hle : (sD ts).length ≤ sizeLine := by rw [List.length_map]; omega
  refine GW.run rfl fun S i g b hi ok hb => ?_
  ac_rfl
  refine GW.call (random 8 ⟨by omega, by omega⟩) ok hi (by omega) fun v g1 ok1 p => ?_
  obtain ⟨way, rfl, w0, w8⟩ := p
  ac_rfl
  refine GW.call (random 3 ⟨by omega, by omega⟩) ok1 hi (by omega) fun v g2 ok2 p => ?_
  obtain ⟨often, rfl, o0, o3⟩ := p
  ac_rfl
  let J : Mp.Env → Store → Prop := fun env T => ∃ (v : Val) (fs : List (List Str)) (o : Option Val) (g2 : List PyData) (L : Store), env = [some (.c i), some (.d (.list (sD ts))), some (.d (relsD [(w1, 2), (w2, 1), (w3, p3)])), some (.d (.int way)), some (.d (.int (2 + often))), some v, o] ∧ T = cfg S i g2 L ∧
    ListAt T v (fs.map factD) ∧ (∀ f ∈ fs, FactOf [(w1, 2), (w2, 1), (w3, p3)] ts f) ∧ three fs ≤ 3 ∧ fs.length ≤ 100 ∧ GenOk (b + 9000) g2
  refine Bra.join J ?_ (fun _ => ?_) fun _ => ?_
  · rintro env T ⟨v, fs, o, g2, L, rfl, rfl, hat, hof, h3, hlen, ok2⟩
    ac_rfl
    refine hat.pk ?_
    have few := few_facts hrel ht.2 hof
    refine sset_pu (FactOf.facts hrel hlay hof) (by omega) (by omega) ?_
    ac_rfl
    rw [cut_to (by decide)]
    refine EndG.d (ok2.le (by omega)) ⟨(sortF fs).take 40, ?_, (sortF_asc fs).take 40, by rw [List.length_take]; omega, fun f hf => hof f (sortF_mem.mp (List.mem_of_mem_take hf)), ?_⟩
    · show Val.d (PyData.tuple [.list (sD ts), .list (List.take 40 ((sortF fs).map factD))]) = _
      rw [← List.map_take]
      rfl
    · have := three_sub (List.take_sublist 40 (sortF fs))
      have := three_sort fs
      omega
  · ac_rfl
    refine lc_gen (c := 1000) (fun dn acc => ∃ (rs : List (Str × Nat)) (yss : List (List (List Str))), dn = (rs.map relD).map Val.d ∧ acc = yss.map (fun fs => .list (fs.map factD)) ∧ (∀ p ∈ rs, p ∈ [(w1, 2), (w2, 1), (w3, p3)]) ∧ (∀ f ∈ yss.flatten, FactOf [(w1, 2), (w2, 1), (w3, p3)] ts f) ∧ three yss.flatten ≤ cnt3 rs ∧ yss.flatten.length ≤ 16 * rs.length ∧ yss.length = rs.length) ok2 (by simp; omega) ⟨[], [], rfl, rfl, by simp, by simp, by decide, by decide, rfl⟩ (fun dn v acc g' b' e r ok' hb' => ?_) (fun ys g' r ok' => ?_)
    · obtain ⟨r', e⟩ := e
      obtain ⟨rs, yss, rfl, rfl, hrs, hof, h3, hlen, hyl⟩ := r
      have e' : (List.map relD [(w1, 2), (w2, 1), (w3, p3)]).map Val.d = _ := e
      have hv : v ∈ (List.map relD [(w1, 2), (w2, 1), (w3, p3)]).map Val.d := by rw [e']; simp
      obtain ⟨x, hx, rfl⟩ := List.mem_map.mp hv
      obtain ⟨⟨w, p⟩, hp, rfl⟩ := List.mem_map.mp hx
      have hp3' : p ≤ 3 := by
        simp at hp
        omega
      refine Wp.lcB ?_
      ac_rfl
      refine GW.call (spread ts w p (2 + often) ⟨by omega, by omega⟩ hp3' ⟨by omega, by omega⟩) ok' hi hb' fun v g1 ok1 q => ?_
      obtain ⟨rows, rfl, hrows, hr3, hrn⟩ := q
      ac_rfl
      refine ⟨g1, rfl, ok1, rs ++ [(w, p)], yss ++ [rows.map (w :: ·)], by simp, ?_, fun q hq => ?_, fun f hf => ?_, ?_, ?_, by simp [hyl]⟩
      · rw [Option.toList_some, List.map_append, List.map_cons, List.map_nil, List.map_map]
        rfl
      · rcases List.mem_append.mp hq with h | h
        · exact hrs q h
        · rw [List.mem_singleton] at h
          exact h ▸ hp
      · rw [List.flatten_append, List.mem_append] at hf
        rcases hf with h | h
        · exact hof f h
        · simp only [List.flatten_cons, List.flatten_nil, List.append_nil] at h
          exact rows_fact hp hrows f h
      · rw [List.flatten_append, three_append]
        have := three_rows (w := w) hrows hr3
        unfold cnt3 at h3 ⊢
        rw [List.map_append, List.sum_append]
        simp only [List.flatten_cons, List.flatten_nil, List.append_nil, List.map_cons, List.map_nil, List.sum_cons, List.sum_nil, Nat.add_zero]
        omega
      · have h16 : rows.length ≤ 16 := rows_few ht.2 hp3' hr3 hrn
        rw [List.flatten_append, List.length_append, List.length_append, List.length_singleton, show [rows.map (w :: ·)].flatten = rows.map (w :: ·) from by simp, List.length_map]
        omega
    · obtain ⟨rs, yss, e1, rfl, hrs, hof, h3, hlen, hyl⟩ := r
      have e2 : [(w1, 2), (w2, 1), (w3, p3)] = rs := by
        refine map_inj (f := relD) (fun a b h => ?_) (map_inj (f := Val.d) (fun a b h => by cases h; rfl) e1)
        obtain ⟨a1, a2⟩ := a
        obtain ⟨b1, b2⟩ := b
        simp [relD] at h
        rw [h.1, show a2 = b2 by omega]
      subst e2
      have hyl3 : yss.length = 3 := by rw [hyl]; rfl
      have hc := cnt3_rels _ hrel
      refine ⟨by rw [List.length_map]; omega, ?_⟩
      ac_rfl
      have e : (yss.map fun fs => PyData.list (fs.map factD)) = (yss.map fun fs => fs.map factD).map PyData.list := by rw [List.map_map]; rfl
      have e3 : (yss.map fun fs => fs.map factD).flatten = yss.flatten.map factD := by rw [List.map_flatten]
      rw [e]
      refine sum_lists (by rw [e3, List.length_map]; omega) ?_
      rw [e3]
      ac_rfl
      exact ⟨_, yss.flatten, _, g', _, rfl, rfl, .inl rfl, hof, by omega, by omega, ok'.le (by simp)⟩
  · ac_rfl
    refine Bra.both (fun _ => ?_) fun _ => ?_
    · ac_rfl
      refine GWR.call (links ts w1 ⟨by omega, by omega⟩ hlay) ok2 hi (by omega) fun xs g3 ok3 p => ?_
      obtain ⟨rows, rfl, hrows, hrl⟩ := p
      ac_rfl
      refine GW.call (random 3 ⟨by omega, by omega⟩) ok3 hi (by omega) fun v g4 ok4 p => ?_
      obtain ⟨r, rfl, r0, r3⟩ := p
      ac_rfl
      have hof0 : ∀ f ∈ rows.map (w1 :: ·), FactOf [(w1, 2), (w2, 1), (w3, p3)] ts f := rows_fact (p := 2) (by simp) hrows
      have h30 : three (rows.map (w1 :: ·)) = 0 := by
        have := three_rows (w := w1) (p := 2) hrows (fun h => absurd h (by decide))
        simpa using this
      refine Bra.join (fun env T => ∃ (fs : List (List Str)) (o : Option Val) (g2' : List PyData), env = [some (.c i), some (.d (.list (sD ts))), some (.d (relsD [(w1, 2), (w2, 1), (w3, p3)])), some (.d (.int way)), some (.d (.int (2 + often))), some (.c (cfg S i g2 [some (.l [])]).length), o] ∧
        T = cfg S i g2' [some (.l []), some (.l (fs.map factD))] ∧ (∀ f ∈ fs, FactOf [(w1, 2), (w2, 1), (w3, p3)] ts f) ∧ three fs = 0 ∧ fs.length ≤ 20 ∧ GenOk (b + 2000) g2') ?_ (fun _ => ?_) fun _ => ?_
      rotate_left
      · ac_rfl
        refine GW.call (pick (sD ts) hne hle) ok4 hi (by omega) fun v g5 ok5 p => ?_
        obtain ⟨x, hx, rfl⟩ := p
        obtain ⟨t, ht', rfl⟩ := List.mem_map.mp hx
        ac_rfl
        refine ⟨by rw [List.length_map]; omega, ?_⟩
        ac_rfl
        refine ⟨rows.map (w1 :: ·) ++ [[w2, t]], _, g5, rfl, ?_, fun f hf => ?_, ?_, by simp; omega, ok5.le (by omega)⟩
        · rw [List.map_append, List.map_map]
          rfl
        · rcases List.mem_append.mp hf with h | h
          · exact hof0 f h
          · rw [List.mem_singleton] at h
            subst h
            exact ⟨w2, [t], 1, rfl, by simp, rfl, by simpa using ht'⟩
        · rw [three_append, h30]
          rfl
      · ac_rfl
        refine ⟨rows.map (w1 :: ·), _, g4, rfl, ?_, hof0, h30, by rw [List.length_map]; omega, ok4.le (by omega)⟩
        rw [List.map_map]
        rfl
      rintro env T ⟨fs, o, g6, rfl, rfl, hof, h3, hlen, ok6⟩
      ac_rfl
      refine GW.call (random 4 ⟨by omega, by omega⟩) ok6 hi (by omega) fun v g7 ok7 p => ?_
      obtain ⟨r, rfl, r0, r3⟩ := p
      ac_rfl
      refine Bra.both (fun _ => ?_) fun _ => ?_
      · ac_rfl
        refine GW.call (spread ts w3 p3 2 ⟨by omega, by omega⟩ hp3 ⟨by omega, by omega⟩) ok7 hi (by omega) fun v g8 ok8 q => ?_
        obtain ⟨rows, rfl, hrows, hr3, hrn⟩ := q
        have h16 : rows.length ≤ 16 := rows_few ht.2 hp3 hr3 hrn
        have q3 := three_rows (w := w3) hrows hr3
        have q4 : (if p3 = 3 then 3 else 0) ≤ 3 := by split <;> decide
        ac_rfl
        refine ⟨by rw [List.length_append, List.length_map, List.length_map]; omega, ?_⟩
        ac_rfl
        refine ⟨_, fs ++ rows.map (w3 :: ·), _, g8, _, rfl, rfl, .inl ?_, fun f hf => ?_, ?_, ?_, ok8.le (by omega)⟩
        · rw [List.map_append, List.map_map]
          rfl
        · rcases List.mem_append.mp hf with h | h
          · exact hof f h
          · exact rows_fact (p := p3) (by simp) hrows f h
        · rw [three_append]
          omega
        · rw [List.length_append, List.length_map]
          omega
      · ac_rfl
        exact ⟨_, fs, _, _, _, rfl, rfl, .inr ⟨_, rfl, cfg_loc rfl⟩, hof, by omega, by omega, ok7.le (by omega)⟩
    · ac_rfl
      exact ⟨_, [], _, _, _, rfl, rfl, .inr ⟨_, rfl, cfg_loc rfl⟩, by simp, by decide, by decide, ok2.le (by omega)⟩
end Gs
end
section
set_option autoImplicit false
set_option linter.all false
set_option maxRecDepth 100000
set_option maxHeartbeats 1000000
/-! Gs9: a world changed, marks. -/
namespace Gs
open PySem Mp Mp.Ww Gd
local macro_rules | `(tactic| ac_rfl) => `(tactic| ((repeat ((conv => whnf); first | refine XE.st _ ?_ | refine XD.st _ ?_ | refine XV.st _ ?_ | refine XA.st _ ?_ | refine XO.st _ ?_ | refine XI.st _ ?_ | refine XS.st _ ?_ | refine XSs.st _ ?_ | refine Bra.t rfl ?_ | refine Bra.f rfl ?_ | refine Opt.of rfl ?_ | refine Opt.of atI_z ?_ | refine Opt.of atI_o ?_ | refine Opt.glb (by with_reducible assumption) ?_ | refine cm_int ?_ | refine cm_is ?_ | refine cm_eq ?_ | refine cm_ne ?_ | refine cm_gen ?_ | refine look_of (cfg_gen (by assumption)) ?_ | refine look_of (cfg_loc rfl) ?_ | refine And.intro (by first | with_reducible assumption | exact rfl | exact Nat.le_of_ble_eq_true rfl | exact ⟨rfl, Nat.le_of_ble_eq_true rfl⟩ | decide | omega | (have hsz := szl; omega)) ?_ | rw [cfg_set (by assumption)] | rw [cfg_setloc] | rw [cfg_push])); (try (conv => whnf))))
variable {Γ : Nat → List Val → M Val} {gl : List PyData} {X : XT}
theorem eq_str {a b : Str} {K : Bool → Prop} (ha : Lay a) (hb : Lay b) (k : K (decide (a = b))) : PuB (eqD (.str a) (.str b)) K := by
  refine PuB.of (fun S => ?_) k
  show bnd (guard (SeqAt.shaped (.str a) && SeqAt.shaped (.str b))) (fun _ => ret (PyData.eqv (.str a) (.str b))) S = _
  rw [shaped_str ha, shaped_str hb, eqv_str]
  rfl
theorem erase_map {α β : Type} (f : α → β) : ∀ (l : List α) (k : Nat), (l.map f).eraseIdx k = (l.eraseIdx k).map f
  | [], _ => rfl
  | x :: l, 0 => rfl
  | x :: l, k + 1 => by
    show f x :: (l.map f).eraseIdx k = f x :: (l.eraseIdx k).map f
    rw [erase_map f l k]
theorem atI_rel {rel : List (Str × Nat)} {x : PyData} (h : x ∈ rel.map relD) : ∃ w p, x = .tuple [.str w, .int (p : Nat)] ∧ (w, p) ∈ rel := by
  obtain ⟨⟨w, p⟩, hp, rfl⟩ := List.mem_map.mp h
  exact ⟨w, p, rfl, hp⟩
theorem rels_le : ∀ rel ∈ RELS, ∀ p ∈ rel, p.2 ≤ 3 := by
  intro rel hr p hp
  obtain ⟨w1, w2, w3, p3, rfl, h3⟩ := rels_shape rel hr
  simp at hp
  rcases hp with rfl | rfl | rfl <;> simp
  exact h3
/-- one thing in another's place -/
def ren (one other : Str) (t : Str) : Str := if t = one then other else t
theorem ren_fact {rel : List (Str × Nat)} {ts : List Str} {one other : Str} (h : other ∈ ts) {w : Str} {r : List Str} (hf : FactOf rel ts (w :: r)) : FactOf rel ts (w :: r.map (ren one other)) := by
  obtain ⟨w', r', p, e, hm, hl, ht⟩ := hf
  cases e
  refine ⟨w, _, p, rfl, hm, by rw [List.length_map]; exact hl, fun t htm => ?_⟩
  obtain ⟨u, hu, rfl⟩ := List.mem_map.mp htm
  unfold ren
  split
  · exact h
  · exact ht u hu
def renF (one other : Str) : List Str → List Str
  | [] => []
  | w :: r => w :: r.map (ren one other)
theorem renF_len (one other : Str) (f : List Str) : (renF one other f).length = f.length := by cases f <;> simp [renF]
theorem three_ren (one other : Str) (fs : List (List Str)) : three (fs.map (renF one other)) = three fs := by
  unfold three
  rw [List.filter_map, List.length_map]
  congr 1
  refine List.filter_congr fun f _ => ?_
  show decide ((renF one other f).length = 4) = _
  rw [renF_len]
def ChangedS (F : List Val → M Val) : Prop := ∀ (ts : List Str) (gs : List (List Str)) (rel : List (Str × Nat)) (c : Nat), rel ∈ RELS → (1 ≤ ts.length ∧ ts.length ≤ 4) → (∀ t ∈ ts, Lay t) → WFacts rel ts gs c → c ≤ 21 →
  GW F [.d (worldD ts gs), .d (relsD rel)] 1000 (fun v => ∃ gs', v = .d (worldD ts gs') ∧ WFacts rel ts gs' (2 * c + 1))
theorem changed_ok {kr kp : Nat} (random : RandS (Γ kr)) (pick : PickS (Γ kp)) : ChangedS ((A__law_changed kr kp).run Γ gl) := by
  intro ts gs rel c hrel ht hlay W hc
  have hne : sD ts ≠ [] := fun e => by rw [List.map_eq_nil_iff] at e; rw [e] at ht; exact absurd ht.1 (by decide)
  have hsz := szl
  have hle : (sD ts).length ≤ sizeLine := by rw [List.length_map]; omega
  have hgl := W.len
  have hrl : rel.length = 3 := by obtain ⟨_, _, _, _, rfl, _⟩ := rels_shape rel hrel; rfl
  have hreln : rel.map relD ≠ [] := fun e => by rw [List.map_eq_nil_iff] at e; rw [e] at hrl; cases hrl
  refine GW.run rfl fun S i g b hi ok hb => ?_
  ac_rfl
  refine GW.call (random 4 ⟨by omega, by omega⟩) ok hi (by omega) fun v g1 ok1 p => ?_
  obtain ⟨way, rfl, w0, w4⟩ := p
  ac_rfl
  let J : Mp.Env → Store → Prop := fun env T => ∃ (v : Val) (fs : List (List Str)) (o1 o2 o3 o4 o5 o6 o7 : Option Val) (g2 : List PyData) (L : Store), env = [some (.c i), some (.d (worldD ts gs)), some (.d (relsD rel)), some (.d (.list (sD ts))), some v, some (.d (.int way)), o1, o2, o3, o4, o5, o6, o7] ∧ T = cfg S i g2 L ∧
    ListAt T v (fs.map factD) ∧ (∀ f ∈ fs, FactOf rel ts f) ∧ three fs ≤ 2 * c + 1 ∧ fs.length ≤ 100 ∧ GenOk (b + 1000) g2
  have els : ∀ (T : Store), T = cfg S i g1 [some (.l (gs.map factD))] → XSs Γ gl nx (match (A__law_changed kr kp).body with | .cons _ (.cons (.ifs _ _ b) _) => b | _ => .nil) (setVs (List.map some [Val.c i, Val.d (worldD ts gs), Val.d (relsD rel)] ++ List.replicate 10 none) [3, 4, 5] [Val.d (PyData.list (sD ts)), Val.c (List.length (cfg S i g [])), Val.d (PyData.int way)]) (fun fl S_1 => thX J (endX S false (EndG S i b 1000 fun v => ∃ gs', v = Val.d (worldD ts gs') ∧ WFacts rel ts gs' (2 * c + 1))) fl S_1) T := by
    rintro T rfl
    ac_rfl
    refine Bra.both (fun _ => ?_) fun _ => ?_
    · ac_rfl
      refine GW.call (pick (rel.map relD) hreln (by rw [List.length_map]; omega)) ok1 hi (by omega) fun v g2 ok2 p => ?_
      obtain ⟨x, hx, rfl⟩ := p
      obtain ⟨w, p, rfl, hp⟩ := atI_rel hx
      have hp3 := rels_le rel hrel _ hp
      simp only at hp3
      ac_rfl
      refine lc_genM (c := 10) (fun y => y ∈ sD ts) ok2 (by rw [rng_len]; omega) (fun v g' b' hv ok' hb' => ?_) fun ys g3 hys hP ok3 => ?_
      · refine Wp.lcB ?_
        ac_rfl
        refine GW.call (pick (sD ts) hne hle) ok' hi hb' fun v g1 ok1 p => ?_
        obtain ⟨x, hx, rfl⟩ := p
        ac_rfl
        exact ⟨g1, x, rfl, rfl, ok1, hx⟩
      · rw [rng_len] at hys ok3
        obtain ⟨us, rfl, hu⟩ := strs_of hP
        rw [List.length_map] at hys
        refine ⟨by rw [List.length_map]; omega, ?_⟩
        ac_rfl
        refine ⟨by simp; omega, ?_⟩
        ac_rfl
        refine ⟨by rw [List.length_map]; omega, ?_⟩
        ac_rfl
        refine ⟨_, gs ++ [w :: us], _, _, _, _, _, _, _, g3, _, rfl, rfl, ?_, fun f hf => ?_, ?_, ?_, ok3.le (by omega)⟩
        · rw [List.map_append]
          exact .inr ⟨_, rfl, cfg_loc rfl⟩
        · rcases List.mem_append.mp hf with h | h
          · exact W.of f h
          · rw [List.mem_singleton] at h
            subst h
            exact ⟨w, us, p, rfl, hp, by omega, hu⟩
        · rw [three_append]
          have := W.three
          have : three [w :: us] ≤ 1 := List.length_filter_le _ _
          omega
        · rw [List.length_append, List.length_singleton]
          omega
    · ac_rfl
      refine GW.call (pick (sD ts) hne hle) ok1 hi (by omega) fun v g2 ok2 p => ?_
      obtain ⟨x, hx, rfl⟩ := p
      obtain ⟨one, hone, rfl⟩ := List.mem_map.mp hx
      ac_rfl
      refine GW.call (pick (sD ts) hne hle) ok2 hi (by omega) fun v g3 ok3 p => ?_
      obtain ⟨x, hx, rfl⟩ := p
      obtain ⟨other, hother, rfl⟩ := List.mem_map.mp hx
      ac_rfl
      refine lc_mapH (as := gs) factD (fun f => factD (renF one other f)) (here_some (cfg_loc rfl)) (fun f hf => ?_) ?_
      · obtain ⟨w, r, p, rfl, hp, hl, hr⟩ := W.of f hf
        have hp3 := rels_le rel hrel _ hp
        simp only at hp3
        refine Wp.lcB ?_
        ac_rfl
        rw [show cutD (sD (w :: r)) (some 1) none = sD r from cut_tail]
        refine lc_mapH (as := r) PyData.str (fun t => .str (ren one other t)) here_none (fun t ht => ?_) ?_
        · refine Wp.lcB ?_
          ac_rfl
          refine eq_str (hlay _ (hr t ht)) (hlay _ hone) ?_
          ac_rfl
          refine Bra.both (fun e => ?_) fun e => ?_
          · ac_rfl
            refine ⟨?_, rfl⟩
            rw [ren, if_pos (of_decide_eq_true e)]
          · ac_rfl
            refine ⟨?_, rfl⟩
            rw [ren, if_neg (of_decide_eq_false e)]
        · refine ⟨by rw [List.length_map]; omega, ?_⟩
          rw [show cutD (sD (w :: r)) none (some 1) = [.str w] from by rw [cut_to (by decide)]; rfl]
          ac_rfl
          refine ⟨by simp; omega, ?_⟩
          ac_rfl
          refine ⟨?_, rfl⟩
          show some (PyData.tuple (.str w :: r.map fun t => .str (ren one other t))) = some (PyData.tuple (.str w :: (r.map (ren one other)).map PyData.str))
          rw [List.map_map]
          rfl
      · refine ⟨by rw [List.length_map]; omega, ?_⟩
        ac_rfl
        refine ⟨by rw [List.length_append, List.length_map, List.length_map]; omega, ?_⟩
        ac_rfl
        refine ⟨_, gs ++ gs.map (renF one other), _, _, _, _, _, _, _, g3, _, rfl, rfl, .inl ?_, fun f hf => ?_, ?_, ?_, ok3.le (by omega)⟩
        · rw [List.map_append, List.map_map]
          rfl
        · rcases List.mem_append.mp hf with h | h
          · exact W.of f h
          · obtain ⟨f, hf', rfl⟩ := List.mem_map.mp h
            have q := W.of f hf'
            obtain ⟨w, r, p, rfl, _⟩ := W.of f hf'
            exact ren_fact hother q
        · rw [three_append, three_ren]
          have := W.three
          omega
        · rw [List.length_append, List.length_map]
          omega
  refine Bra.joinA J ?_ (fun _ => ?_) fun _ => els _ rfl
  · rintro env T ⟨v, fs, o1, o2, o3, o4, o5, o6, o7, g2, L, rfl, rfl, hat, hof, h3, hlen, ok2⟩
    ac_rfl
    refine hat.pk ?_
    have few := few_facts hrel ht.2 hof
    refine sset_pu (FactOf.facts hrel hlay hof) (by omega) (by omega) ?_
    ac_rfl
    rw [cut_to (by decide)]
    refine EndG.d (ok2.le (by omega)) ⟨(sortF fs).take 40, ?_, (sortF_asc fs).take 40, by rw [List.length_take]; omega, fun f hf => hof f (sortF_mem.mp (List.mem_of_mem_take hf)), ?_⟩
    · show Val.d (PyData.tuple [.list (sD ts), .list (List.take 40 ((sortF fs).map factD))]) = _
      rw [← List.map_take]
      rfl
    · have := three_sub (List.take_sublist 40 (sortF fs))
      have := three_sort fs
      omega
  · ac_rfl
    refine eq_nil ?_
    ac_rfl
    refine Bra.both (fun hn => ?_) fun _ => ?_
    · ac_rfl
      have hpos : 0 < gs.length := by
        cases gs with
        | nil => simp at hn
        | cons _ _ => simp
      refine GW.call (random (gs.map factD).length ⟨by rw [List.length_map]; omega, by rw [List.length_map]; omega⟩) ok1 hi (by omega) fun v g2 ok2 p => ?_
      obtain ⟨r, rfl, r0, r1⟩ := p
      have hk : r.toNat < (gs.map factD).length := by omega
      ac_rfl
      refine ⟨by rw [List.length_map] at r1; omega, ?_⟩
      ac_rfl
      refine Opt.of (ixN_int r0 r1) ?_
      ac_rfl
      refine Opt.of (List.getElem?_eq_getElem hk) ?_
      ac_rfl
      refine ⟨_, gs.eraseIdx r.toNat, _, _, _, _, _, _, _, g2, _, rfl, rfl, ?_, fun f hf => W.of f (List.mem_of_mem_eraseIdx hf), ?_, ?_, ok2.le (by omega)⟩
      · rw [← erase_map]
        exact .inr ⟨_, rfl, cfg_loc rfl⟩
      · have := three_sub (List.eraseIdx_sublist gs r.toNat)
        have := W.three
        omega
      · have := (List.eraseIdx_sublist gs r.toNat).length_le
        omega
    · refine Bra.f rfl ?_
      exact els _ rfl
def MarksS (F : List Val → M Val) : Prop := ∀ (ts : List Str) (n : Nat), 1 ≤ ts.length → ts.length ≤ 8 → n ≤ 8 → GW F [.d (.list (sD ts)), .d (.int n)] 100 (fun v => ∃ ms, v = .d (.list (sD ms)) ∧ ms.length = n ∧ ∀ m ∈ ms, m ∈ ts)
theorem marks_ok {kr kp : Nat} (random : RandS (Γ kr)) (pick : PickS (Γ kp)) : MarksS ((A__law_marks kr kp).run Γ gl) := by
  intro ts n h1 h8 hn
  have hne : sD ts ≠ [] := fun e => by rw [List.map_eq_nil_iff] at e; rw [e] at h1; exact absurd h1 (by decide)
  have hsz := szl
  have hle : (sD ts).length ≤ sizeLine := by rw [List.length_map]; omega
  refine GW.run rfl fun S i g b hi ok hb => ?_
  ac_rfl
  refine lc_genM (c := 10) (fun y => y ∈ sD ts) ok (by rw [rng_len]; omega) (fun v g' b' hv ok' hb' => ?_) fun ys g2 hys hP ok2 => ?_
  · refine Wp.lcB ?_
    ac_rfl
    refine GW.call (pick (sD ts) hne hle) ok' hi hb' fun v g1 ok1 p => ?_
    obtain ⟨x, hx, rfl⟩ := p
    ac_rfl
    exact ⟨g1, x, rfl, rfl, ok1, hx⟩
  · rw [rng_len] at hys ok2
    obtain ⟨us, rfl, hu⟩ := strs_of hP
    rw [List.length_map] at hys
    refine ⟨by rw [List.length_map]; omega, ?_⟩
    ac_rfl
    refine Bra.joinA (fun env T => ∃ (ms : List Str) (o : Option Val) (g' : List PyData), env = [some (.c i), some (.d (.list (sD ts))), some (.d (.int n)), some (.c (cfg S i g2 []).length), o] ∧ T = cfg S i g' [some (.l (sD ms))] ∧ ms.length = n ∧ (∀ m ∈ ms, m ∈ ts) ∧ GenOk (b + 100) g') ?_ (fun h1 => ?_) fun _ => ?_
    · rintro env T ⟨ms, o, g', rfl, rfl, hl, hm, ok'⟩
      ac_rfl
      exact EndG.d ok' ⟨ms, rfl, hl, hm⟩
    · ac_rfl
      refine GW.call (random 3 ⟨by omega, by omega⟩) ok2 hi (by omega) fun v g3 ok3 p => ?_
      obtain ⟨r, rfl, r0, r3⟩ := p
      ac_rfl
      refine Bra.both (fun _ => ?_) fun _ => ?_
      · ac_rfl
        match us, hys, hu with
        | [], hys, _ => simp at h1 hys; omega
        | [_], hys, _ => simp at h1 hys; omega
        | a :: c :: rest, hys, hu =>
          ac_rfl
          refine Opt.of (ixN_int (by decide) (by simp; omega)) ?_
          ac_rfl
          refine ⟨a :: a :: rest, _, g3, rfl, rfl, by simpa using hys, fun m hm => ?_, ok3.le (by omega)⟩
          simp at hm
          rcases hm with rfl | hm
          · exact hu _ (by simp)
          · exact hu _ (by simp [hm])
      · ac_rfl
        exact ⟨us, _, g3, rfl, rfl, by omega, hu, ok3.le (by omega)⟩
    · ac_rfl
      exact ⟨us, _, g2, rfl, rfl, by omega, hu, ok2.le (by omega)⟩
end Gs
end
section
set_option autoImplicit false
set_option linter.all false
set_option maxRecDepth 100000
set_option maxHeartbeats 1000000
/-! Gs10: cases drawn. -/
namespace Gs
open PySem Mp Mp.Ww Gd
local macro_rules | `(tactic| ac_rfl) => `(tactic| ((repeat ((conv => whnf); first | refine XE.st _ ?_ | refine XD.st _ ?_ | refine XV.st _ ?_ | refine XA.st _ ?_ | refine XO.st _ ?_ | refine XI.st _ ?_ | refine XS.st _ ?_ | refine XSs.st _ ?_ | refine Bra.t rfl ?_ | refine Bra.f rfl ?_ | refine Opt.of rfl ?_ | refine Opt.of atI_z ?_ | refine Opt.of atI_o ?_ | refine Opt.glb (by with_reducible assumption) ?_ | refine cm_int ?_ | refine cm_is ?_ | refine cm_eq ?_ | refine cm_ne ?_ | refine cm_gen ?_ | refine look_of (cfg_gen (by assumption)) ?_ | refine look_of (cfg_loc rfl) ?_ | refine And.intro (by first | with_reducible assumption | exact rfl | exact Nat.le_of_ble_eq_true rfl | exact ⟨rfl, Nat.le_of_ble_eq_true rfl⟩ | decide | omega | (have hsz := szl; omega)) ?_ | rw [cfg_set (by assumption)] | rw [cfg_setloc] | rw [cfg_push])); (try (conv => whnf))))
variable {Γ : Nat → List Val → M Val} {gl : List PyData} {X : XT}
theorem cfg_old {S L : Store} {i a : Nat} {g : List PyData} {o : Option Ob} (h : S[a]? = some o) (ne : a ≠ i) : (cfg S i g L)[a]? = some o := by
  rw [cfg_eq, List.getElem?_append_left (by simpa using (List.getElem?_eq_some_iff.mp h).1), List.getElem?_set_ne (fun e => ne e.symm)]
  exact h
/-- a thing picked of a list that is a cell -/
def PickCS (F : List Val → M Val) : Prop := ∀ (xs : List PyData) (S : Store) (i a b : Nat) (g : List PyData), xs ≠ [] → xs.length ≤ sizeLine → S[i]? = some (some (.l g)) → S[a]? = some (some (.l xs)) → a ≠ i → GenOk b g → b + 10 ≤ most →
  ∃ x g', F [.c i, .c a] S = .ok (.d x) (S.set i (some (.l g'))) ∧ GenOk (b + 10) g' ∧ x ∈ xs
theorem pickC_ok {k : Nat} (random : RandS (Γ k)) : PickCS ((A__law_pick k).run Γ gl) := by
  intro xs S i a b g ne len hg ha hai ok hb
  have pos : 0 < xs.length := List.length_pos_iff.mpr ne
  have hsz := szl
  have hi : i < S.length := (List.getElem?_eq_some_iff.mp hg).1
  have key : Wp ((A__law_pick k).run Γ gl [.c i, .c a]) (EndG S i b 10 fun v => ∃ x ∈ xs, v = .d x) nx S := by
    refine Wp.run rfl ?_
    conv => arg 7; rw [cfg_start hg]
    ac_rfl
    refine look_of (cfg_old ha hai) ?_
    ac_rfl
    refine GW.call (random xs.length ⟨by omega, by omega⟩) ok hi hb fun v g' ok' p => ?_
    obtain ⟨r, rfl, r0, r1⟩ := p
    obtain ⟨x, hx, e⟩ := atI_some r0 r1
    ac_rfl
    refine look_of (cfg_old ha hai) ?_
    ac_rfl
    refine Opt.of e ?_
    ac_rfl
    exact EndG.d ok' ⟨x, hx, rfl⟩
  obtain ⟨v, T, e, q⟩ := key.ok
  rw [EndG_eq] at q
  obtain ⟨g', rfl, ok', x, hx, rfl⟩ := q
  exact ⟨x, g', e, ok', hx⟩
theorem PickCS.call {k : Nat} {xs : List PyData} {b : Nat} {S L L0 : Store} {i : Nat} {g g0 : List PyData} {Q : Val → Store → Prop} (h : PickCS (Γ k)) (ok : GenOk b g) (hi : i < S.length) (hb : b + 10 ≤ most) (ne : xs ≠ []) (len : xs.length ≤ sizeLine) (hL : L[L0.length]? = some (some (.l xs)))
    (q : ∀ x g', GenOk (b + 10) g' → x ∈ xs → Q (.d x) (cfg S i g' L)) : Wp (Γ k [.c i, .c (cfg S i g0 L0).length]) Q X (cfg S i g L) := by
  obtain ⟨x, g', e, ok', hx⟩ := h xs (cfg S i g L) i (cfg S i g0 L0).length b g ne len (cfg_gen hi) (cfg_loc hL) (by rw [cfg_len]; omega) ok hb
  rw [cfg_set hi] at e
  exact Wp.of e (q x g' ok' hx)
/-! ### cases -/
def caseD (ts : List Str) (gs : List (List Str)) (ms : List Str) : PyData := .tuple [worldD ts gs, .list (sD ms)]
/-- up to four things of a menu -/
def Things (ts : List Str) : Prop := ∃ n, 1 ≤ n ∧ n ≤ 4 ∧ Th n ts
theorem th_all : ∀ m ∈ MENU, m.length = 4 ∧ ∀ t ∈ m, Lay t := by
  intro m hm
  have : (MENU.all fun m => decide (m.length = 4) && m.all fun t => PyData.canLay0 (.str t)) = true := by decide +kernel
  rw [List.all_eq_true] at this
  have := this m hm
  rw [Bool.and_eq_true, List.all_eq_true, decide_eq_true_eq] at this
  exact this
theorem Th.len {n : Nat} {ts : List Str} (h : Th n ts) : ts.length = n := by
  obtain ⟨m, hm, k, hk, rfl⟩ := h
  have := (th_all m hm).1
  rw [List.length_take, List.length_drop]
  omega
theorem Things.len {ts : List Str} (h : Things ts) : 1 ≤ ts.length ∧ ts.length ≤ 4 := by
  obtain ⟨n, h1, h4, t⟩ := h
  rw [t.len]
  exact ⟨h1, h4⟩
theorem Things.lay {ts : List Str} (h : Things ts) : ∀ t ∈ ts, Lay t := by
  obtain ⟨n, h1, h4, m, hm, k, hk, rfl⟩ := h
  exact fun t ht => (th_all m hm).2 t (List.mem_of_mem_drop (List.mem_of_mem_take ht))
structure CaseOk (rel : List (Str × Nat)) (m c : Nat) (x : PyData) (ts : List Str) (gs : List (List Str)) (ms : List Str) : Prop where
  eq : x = caseD ts gs ms
  things : Things ts
  facts : WFacts rel ts gs c
  len : ms.length = m
  mem : ∀ t ∈ ms, t ∈ ts
theorem WFacts.le {rel : List (Str × Nat)} {ts : List Str} {gs : List (List Str)} {c c' : Nat} (h : WFacts rel ts gs c) (l : c ≤ c') : WFacts rel ts gs c' := ⟨h.asc, h.len, h.of, Nat.le_trans h.three l⟩
abbrev bound3 (k : Nat) : Nat := 2 ^ (k + 1) - 1
def CasesS (F : List Val → M Val) : Prop := ∀ (n mo m : Nat) (rel : List (Str × Nat)), n ≤ 4 → (1 ≤ mo ∧ mo ≤ 4) → m ≤ 8 → rel ∈ RELS →
  GWR F [.d (.int n), .d (.int mo), .d (.int m), .d (relsD rel)] 100000 (fun xs => xs.length = n ∧ ∀ x ∈ xs, ∃ ts gs ms, CaseOk rel m (bound3 n) x ts gs ms)
theorem cases_ok {km kr kc kp kw kt : Nat} (marks : MarksS (Γ km)) (random : RandS (Γ kr)) (changed : ChangedS (Γ kc)) (pickc : PickCS (Γ kp)) (world : WorldS (Γ kw)) (things : ThingsS (Γ kt)) : CasesS ((A__law_cases km kr kc kp kw kt).run Γ gl) := by
  intro n mo m rel hn hmo hm hrel
  have hsz := szl
  refine GWR.run rfl fun S i g b hi ok hb => ?_
  ac_rfl
  refine Wp.forD (fun dn env T => ∃ (xs : List PyData) (o1 o2 : Option Val) (g' : List PyData), env = [some (.c i), some (.d (.int n)), some (.d (.int mo)), some (.d (.int m)), some (.d (relsD rel)), some (.c (cfg S i g []).length), o1, o2] ∧ T = cfg S i g' [some (.l xs)] ∧
    xs.length = dn.length ∧ (∀ x ∈ xs, ∃ ts gs ms, CaseOk rel m (bound3 dn.length) x ts gs ms) ∧ GenOk (b + 20000 * dn.length) g') (fun _ _ _ _ => here_none) (fun dn v vs env T hits inv => ?_) (fun env T inv => ?_) ⟨[], _, _, g, rfl, rfl, rfl, by simp, by simpa using ok⟩
  · obtain ⟨xs, o1, o2, g', rfl, rfl, hxs, hok, ok'⟩ := inv
    have hl : dn.length < n := by
      have := congrArg List.length hits
      rw [rng_len] at this
      simp at this
      omega
    have hb2 : 20000 * dn.length + 20000 ≤ 80000 := by omega
    have hn1 : (dn ++ [v]).length = dn.length + 1 := by simp
    have hbd : bound3 (dn.length + 1) = 2 * bound3 dn.length + 1 := by
      show 2 ^ (dn.length + 1 + 1) - 1 = 2 * (2 ^ (dn.length + 1) - 1) + 1
      have : 0 < 2 ^ (dn.length + 1) := Nat.pow_pos (by decide)
      rw [Nat.pow_succ]
      omega
    have hb3 : 3 ≤ bound3 (dn.length + 1) := by
      rw [hbd]
      show 3 ≤ 2 * (2 ^ (dn.length + 1) - 1) + 1
      have : 2 ^ 1 ≤ 2 ^ (dn.length + 1) := Nat.pow_le_pow_right (by decide) (by omega)
      omega
    have hb21 : bound3 dn.length ≤ 21 := by
      have : 2 ^ (dn.length + 1) ≤ 2 ^ 4 := Nat.pow_le_pow_right (by decide) (by omega)
      show 2 ^ (dn.length + 1) - 1 ≤ 21
      omega
    have hxl : xs.length ≤ sizeLine := by omega
    let J : Mp.Env → Store → Prop := fun env T => ∃ (ts : List Str) (gs : List (List Str)) (g2 : List PyData), env = [some (.c i), some (.d (.int n)), some (.d (.int mo)), some (.d (.int m)), some (.d (relsD rel)), some (.c (cfg S i g []).length), some v, some (.d (worldD ts gs))] ∧ T = cfg S i g2 [some (.l xs)] ∧
      Things ts ∧ WFacts rel ts gs (bound3 (dn.length + 1)) ∧ GenOk (b + 20000 * dn.length + 15000) g2
    let env1 : Mp.Env := [some (.c i), some (.d (.int n)), some (.d (.int mo)), some (.d (.int m)), some (.d (relsD rel)), some (.c (cfg S i g []).length), some v, o2]
    have fresh : ∀ (Q : Fl → Store → Prop) (g2 : List PyData), GenOk (b + 20000 * dn.length + 50) g2 → XSs Γ gl nx (match (A__law_cases km kr kc kp kw kt).body with | .cons _ (.cons (.for_ _ _ (.cons (.ifs _ _ (.cons (.ifs _ _ b) _)) _)) _) => b | _ => .nil) env1 (fun fl S => thX J Q fl S) (cfg S i g2 [some (.l xs)]) := by
      intro Q g2 ok2
      ac_rfl
      refine GW.call (random mo ⟨by omega, by omega⟩) ok2 hi (by omega) fun v g3 ok3 p => ?_
      obtain ⟨r, rfl, r0, r1⟩ := p
      ac_rfl
      rw [show (1 + r : Int) = ((1 + r.toNat : Nat) : Int) by omega]
      refine GW.call (things (1 + r.toNat) ⟨by omega, by omega⟩) ok3 hi (by omega) fun v g4 ok4 p => ?_
      obtain ⟨ts, rfl, hts⟩ := p
      have hT : Things ts := ⟨_, by omega, by omega, hts⟩
      ac_rfl
      refine GW.call (world ts rel hrel hT.len hT.lay) ok4 hi (by omega) fun v g5 ok5 p => ?_
      obtain ⟨gs, rfl, hW⟩ := p
      ac_rfl
      exact ⟨ts, gs, g5, rfl, rfl, hT, hW.le hb3, ok5.le (by omega)⟩
    have els : ∀ (Q : Fl → Store → Prop) (g2 : List PyData), GenOk (b + 20000 * dn.length + 10) g2 → XSs Γ gl nx (match (A__law_cases km kr kc kp kw kt).body with | .cons _ (.cons (.for_ _ _ (.cons (.ifs _ _ b) _)) _) => b | _ => .nil) env1 (fun fl S => thX J Q fl S) (cfg S i g2 [some (.l xs)]) := by
      intro Q g2 ok2
      ac_rfl
      refine eq_nil ?_
      ac_rfl
      refine Bra.joinA J (fun e S h => XSs.nil h) (fun hne => ?_) fun _ => fresh _ g2 (ok2.le (by omega))
      have hne' : xs ≠ [] := by rintro rfl; simp at hne
      ac_rfl
      refine GW.call (random 3 ⟨by omega, by omega⟩) ok2 hi (by omega) fun v g3 ok3 p => ?_
      obtain ⟨r, rfl, r0, r1⟩ := p
      ac_rfl
      refine Bra.both (fun _ => ?_) fun _ => ?_
      · ac_rfl
        refine PickCS.call pickc ok3 hi (by omega) hne' hxl rfl fun x g4 ok4 hx => ?_
        obtain ⟨ts, gs, ms, hC⟩ := hok x hx
        rw [hC.eq]
        ac_rfl
        exact ⟨ts, gs, g4, rfl, rfl, hC.things, hC.facts.le (by omega), ok4.le (by omega)⟩
      · refine Bra.f rfl ?_
        exact fresh _ g3 (ok3.le (by omega))
    refine Wp.foB ?_
    ac_rfl
    refine eq_nil ?_
    ac_rfl
    refine Bra.joinA J ?_ (fun hne => ?_) fun _ => els _ g' (ok'.le (by omega))
    · rintro env T ⟨ts, gs, g2, rfl, rfl, hT, hW, ok2⟩
      ac_rfl
      refine GW.call (marks ts m hT.len.1 (by have := hT.len.2; omega) hm) ok2 hi (by omega) fun v g3 ok3 p => ?_
      obtain ⟨ms, rfl, hml, hmm⟩ := p
      ac_rfl
      refine ⟨_, _, _, g3, rfl, rfl, by simp [hxs], fun x hx => ?_, ok3.le (by rw [hn1]; omega)⟩
      rw [hn1]
      rcases List.mem_append.mp hx with h | h
      · obtain ⟨ts, gs, ms, hC⟩ := hok x h
        exact ⟨ts, gs, ms, hC.eq, hC.things, hC.facts.le (by omega), hC.len, hC.mem⟩
      · rw [List.mem_singleton] at h
        subst h
        exact ⟨ts, gs, ms, rfl, hT, hW, hml, hmm⟩
    · have hne' : xs ≠ [] := by rintro rfl; simp at hne
      ac_rfl
      refine GW.call (random 5 ⟨by omega, by omega⟩) ok' hi (by omega) fun v g2 ok2 p => ?_
      obtain ⟨r, rfl, r0, r1⟩ := p
      ac_rfl
      refine Bra.both (fun _ => ?_) fun _ => ?_
      · ac_rfl
        refine PickCS.call pickc ok2 hi (by omega) hne' hxl rfl fun x g4 ok4 hx => ?_
        obtain ⟨ts, gs, ms, hC⟩ := hok x hx
        rw [hC.eq]
        ac_rfl
        refine GW.call (changed ts gs rel _ hrel hC.things.len hC.things.lay hC.facts hb21) ok4 hi (by omega) fun v g5 ok5 p => ?_
        obtain ⟨gs', rfl, hW⟩ := p
        ac_rfl
        exact ⟨ts, gs', g5, rfl, rfl, hC.things, by rw [hbd]; exact hW, ok5.le (by omega)⟩
      · refine Bra.f rfl ?_
        exact els _ g2 (ok2.le (by omega))
  · obtain ⟨xs, o1, o2, g', rfl, rfl, hxs, hok, ok'⟩ := inv
    rw [rng_len] at hxs hok ok'
    have e : ((n : Int)).toNat = n := by omega
    rw [e] at hxs hok ok'
    ac_rfl
    exact EndR.c (ok'.le (by omega)) ⟨hxs, hok⟩
end Gs
end
section
set_option autoImplicit false
set_option linter.all false
set_option maxRecDepth 100000
set_option maxHeartbeats 1000000
/-! Gs11: names; tables of texts. -/
namespace Gs
open PySem Mp Mp.Ww Gd
local macro_rules | `(tactic| ac_rfl) => `(tactic| ((repeat ((conv => whnf); first | refine XE.st _ ?_ | refine XD.st _ ?_ | refine XV.st _ ?_ | refine XA.st _ ?_ | refine XO.st _ ?_ | refine XI.st _ ?_ | refine XS.st _ ?_ | refine XSs.st _ ?_ | refine Bra.t rfl ?_ | refine Bra.f rfl ?_ | refine Opt.of rfl ?_ | refine Opt.of atI_z ?_ | refine Opt.of atI_o ?_ | refine Opt.glb (by with_reducible assumption) ?_ | refine cm_int ?_ | refine cm_is ?_ | refine cm_eq ?_ | refine cm_ne ?_ | refine cm_gen ?_ | refine look_of (cfg_gen (by assumption)) ?_ | refine look_of (cfg_loc rfl) ?_ | refine And.intro (by first | with_reducible assumption | exact rfl | exact Nat.le_of_ble_eq_true rfl | exact ⟨rfl, Nat.le_of_ble_eq_true rfl⟩ | decide | omega | (have hsz := szl; omega)) ?_ | rw [cfg_set (by assumption)] | rw [cfg_setloc] | rw [cfg_push])); (try (conv => whnf))))
variable {Γ : Nat → List Val → M Val} {gl : List PyData} {X : XT}
def SMALL : Str := "abcdefghijklmnopqrstuvwxyz"
def CAPITAL : Str := "ABCDEFGHIJKLMNOPQRSTUVWXYZ"
def FIGURES : Str := "0123456789"
/-- a sign of a text -/
def has (z : Str) (c : Nat) : Bool := decide (c ∈ z.cps.toList)
/-- spelled as names are, the first sign one of firsts -/
def spelled (firsts x : Str) : Bool := match x.cps.toList with
  | [] => false
  | c :: cs => decide (cs.length < 8) && (has firsts c && cs.all fun d => has SMALL d || has FIGURES d)
abbrev nameB (x : Str) : Bool := spelled SMALL x
def strLt (a b : Str) : Bool := decide (a.cps.toList < b.cps.toList)
theorem has_low {z : Str} (hz : z.cps.toList.all (fun c => decide (c < 128)) = true) {c : Nat} (h : has z c = true) : c < 128 := by
  unfold has at h
  rw [List.all_eq_true] at hz
  exact of_decide_eq_true (hz c (of_decide_eq_true h))
theorem low_small : SMALL.cps.toList.all (fun c => decide (c < 128)) = true := by decide +kernel
theorem low_capital : CAPITAL.cps.toList.all (fun c => decide (c < 128)) = true := by decide +kernel
theorem low_figures : FIGURES.cps.toList.all (fun c => decide (c < 128)) = true := by decide +kernel
theorem spelled_low {f x : Str} (hf : f.cps.toList.all (fun c => decide (c < 128)) = true) (h : spelled f x = true) : ∀ c ∈ x.cps.toList, c < 128 := by
  unfold spelled at h
  split at h
  · cases h
  · rename_i c cs e
    rw [e]
    simp only [Bool.and_eq_true, List.all_eq_true, Bool.or_eq_true] at h
    intro d hd
    rcases List.mem_cons.mp hd with rfl | hd
    · exact has_low hf h.2.1
    · rcases h.2.2 d hd with q | q
      · exact has_low low_small q
      · exact has_low low_figures q
theorem lay_low {x : Str} (h : ∀ c ∈ x.cps.toList, c < 128) : Lay x := by
  show PyData.canLay0 (.str x) = true
  rw [PyData.canLay0]
  unfold PyData.strOk
  rw [Array.all_eq_true']
  intro c hc
  have := h c (Array.mem_toList_iff.mpr hc)
  simp
  omega
theorem name_lay {x : Str} (h : nameB x = true) : Lay x := lay_low (spelled_low low_small h)
theorem cap_lay {x : Str} (h : spelled CAPITAL x = true) : Lay x := lay_low (spelled_low low_capital h)
theorem spelled_len {f x : Str} (h : spelled f x = true) : 1 ≤ x.length ∧ x.length ≤ 8 := by
  have e : x.length = x.cps.toList.length := by simp [Str.length]
  unfold spelled at h
  split at h
  · cases h
  · rename_i c cs q
    rw [e, q]
    simp only [Bool.and_eq_true, decide_eq_true_eq] at h
    simp
    omega
/-- a world's things -/
structure TsOk (ts : List Str) : Prop where
  pos : 1 ≤ ts.length
  four : ts.length ≤ 4
  name : ∀ t ∈ ts, nameB t = true
  asc : ts.Pairwise fun a b => strLt a b = true
theorem TsOk.lay {ts : List Str} (h : TsOk ts) : ∀ t ∈ ts, Lay t := fun t ht => name_lay (h.name t ht)
theorem strLt_irrefl (a : Str) : strLt a a = false := by
  unfold strLt
  exact decide_eq_false (List.lt_irrefl _)
theorem TsOk.nodup {ts : List Str} (h : TsOk ts) : ts.Nodup := h.asc.imp fun {a b} q e => by
  rw [e, strLt_irrefl] at q
  cases q
theorem menu_ok : (MENU.all fun m => m.all nameB) = true := by decide +kernel
theorem menu_asc : ∀ m ∈ MENU, m.Pairwise fun a b => strLt a b = true := by
  intro m hm
  simp only [MENU, List.mem_cons, List.not_mem_nil, or_false] at hm
  rcases hm with rfl | rfl | rfl | rfl | rfl <;> decide +kernel
theorem Things.ok {ts : List Str} (h : Things ts) : TsOk ts := by
  refine ⟨h.len.1, h.len.2, ?_, ?_⟩
  · obtain ⟨n, h1, h4, m, hm, k, hk, rfl⟩ := h
    have := menu_ok
    rw [List.all_eq_true] at this
    have := this m hm
    rw [List.all_eq_true] at this
    exact fun t ht => this t (List.mem_of_mem_drop (List.mem_of_mem_take ht))
  · obtain ⟨n, h1, h4, m, hm, k, hk, rfl⟩ := h
    exact (menu_asc m hm).sublist ((List.take_sublist _ _).trans (List.drop_sublist _ _))
/-! ### tables of texts -/
def kvS (p : Str × Str) : PyData × PyData := (.str p.1, .str p.2)
theorem any_key (l : List (Str × Str)) (k : Str) : ((l.map kvS).any fun p => PyData.eqv p.1 (.str k)) = decide (k ∈ l.map (·.1)) := by
  induction l with
  | nil => simp
  | cons p l ih =>
    rw [List.map_cons, List.any_cons, ih]
    show (PyData.eqv (.str p.1) (.str k) || _) = _
    rw [eqv_str]
    by_cases h : p.1 = k
    · simp [h]
    · have h' : ¬ k = p.1 := fun e => h e.symm
      simp [h, h']
theorem pairs_str : ∀ (l acc : List (Str × Str)) (S : Store), ((acc ++ l).map (·.1)).Nodup → pairsD (acc.map kvS) (l.map prD) S = .ok ((acc ++ l).map kvS) S
  | [], acc, S, _ => by
    rw [List.map_nil, pairsD, List.append_nil]
    rfl
  | p :: l, acc, S, h => by
    show pairsD (acc.map kvS) (.tuple [.str p.1, .str p.2] :: l.map prD) S = _
    rw [pairsD]
    show pairsD (putD (acc.map kvS) (.str p.1) (.str p.2)) (l.map prD) S = _
    unfold putD
    rw [any_key, if_neg]
    · have e : acc ++ p :: l = acc ++ [p] ++ l := by simp
      rw [e] at h ⊢
      rw [← pairs_str l (acc ++ [p]) S h, List.map_append]
      rfl
    · intro q
      have q := of_decide_eq_true q
      rw [List.map_append, List.nodup_append] at h
      exact h.2.2 _ q p.1 (by simp) rfl
theorem dict_pu {l : List (Str × Str)} {K : PyData → Prop} (h : (l.map (·.1)).Nodup) (hl : l.length ≤ sizeLine) (k : K (.dict (l.map kvS))) : Pu (b1D .dict (.list (l.map prD))) K := by
  refine Pu.of (fun S => ?_) k
  show bnd (guard (decide ((l.map prD).length ≤ sizeLine))) (fun _ => bnd (pairsD [] (l.map prD)) fun kvs => ret (PyData.dict kvs)) S = _
  rw [decide_eq_true (by rw [List.length_map]; exact hl)]
  show bnd (pairsD [] (l.map prD)) (fun kvs => ret (PyData.dict kvs)) S = _
  unfold bnd
  rw [show ([] : List (PyData × PyData)) = ([] : List (Str × Str)).map kvS from rfl, pairs_str l [] S h]
  rfl
theorem look_str (l : List (Str × Str)) (t : Str) : lookD (l.map kvS) (.str t) = ((l.find? fun p => decide (p.1 = t)).map fun p => PyData.str p.2) := by
  unfold lookD
  rw [List.find?_map]
  have e : ((fun p : PyData × PyData => PyData.eqv p.1 (.str t)) ∘ kvS) = fun p : Str × Str => decide (p.1 = t) := by
    funext p
    exact eqv_str p.1 t
  rw [e, Option.map_map]
  rfl
theorem keyOk_str (l : List (Str × Str)) (t : Str) : keyOk (l.map kvS) (.str t) = true := by
  unfold keyOk
  rw [Bool.and_eq_true, List.all_eq_true]
  refine ⟨rfl, fun p hp => ?_⟩
  obtain ⟨q, _, rfl⟩ := List.mem_map.mp hp
  rfl
theorem ix_dict {l : List (Str × Str)} {t u : Str} {K : PyData → Prop} (h : (l.find? fun p => decide (p.1 = t)) = some (t, u)) (k : K (.str u)) : Pu (ixD (.dict (l.map kvS)) (.str t)) K := by
  refine Pu.of (fun S => ?_) k
  show bnd (guard (keyOk (l.map kvS) (.str t))) (fun _ => ofO (lookD (l.map kvS) (.str t))) S = _
  rw [keyOk_str, look_str, h]
  rfl
theorem sort_strs {ts : List Str} {K : PyData → Prop} (hl : ∀ t ∈ ts, Lay t) (hs : ts.length ≤ sizeLine) (k : K (.list ((sD ts).mergeSort (W.dataLe false id)))) : Pu (sortD (sD ts)) K := by
  refine Pu.of (fun S => ?_) k
  have h1 : allAlike (sD ts) = true := by
    unfold allAlike
    rw [List.all_eq_true]
    intro a ha
    rw [List.all_eq_true]
    intro b hb
    obtain ⟨a, _, rfl⟩ := List.mem_map.mp ha
    obtain ⟨b, _, rfl⟩ := List.mem_map.mp hb
    rw [W.alike]
  have h2 : sortable (sD ts) = true := by
    unfold sortable
    rw [Bool.or_eq_true]
    refine .inr ?_
    rw [List.all_eq_true]
    intro a ha
    obtain ⟨a, _, rfl⟩ := List.mem_map.mp ha
    rfl
  have h3 : fitL (sD ts) = true := by
    unfold fitL
    rw [List.length_map]
    exact decide_eq_true hs
  have h4 : ((sD ts).all fun x => noDict x && decide (x.depth ≤ 60)) = true := by
    rw [List.all_eq_true]
    intro a ha
    obtain ⟨a, hm, rfl⟩ := List.mem_map.mp ha
    have : noDict (.str a) = true := hl a hm
    rw [this]
    rfl
  unfold sortD
  rw [h1, h2, h3, h4]
  rfl
theorem svals_pu {l : List (Str × Str)} {K : PyData → Prop} (hne : l ≠ []) (hl : ∀ p ∈ l, Lay p.2) (hs : l.length ≤ sizeLine) (k : K (.list ((sD (l.map (·.2))).mergeSort (W.dataLe false id)))) : Pu (b1D .svals (.dict (l.map kvS))) K := by
  have q : Pu (sortD (sD (l.map (·.2)))) K := sort_strs (fun t ht => by
    obtain ⟨p, hp, rfl⟩ := List.mem_map.mp ht
    exact hl p hp) (by rw [List.length_map]; exact hs) k
  rw [Pu_eq] at q ⊢
  intro S
  obtain ⟨x, e, kx⟩ := q S
  refine ⟨x, ?_, kx⟩
  rw [← e]
  show bnd (guard (((l.map kvS).all fun p => keyAtom p.1) && !(l.map kvS).isEmpty)) (fun _ => sortD ((l.map kvS).map (·.2))) S = _
  have h1 : ((l.map kvS).all fun p => keyAtom p.1) = true := by
    rw [List.all_eq_true]
    intro p hp
    obtain ⟨q, _, rfl⟩ := List.mem_map.mp hp
    rfl
  have h2 : (l.map kvS).isEmpty = false := by
    cases l with
    | nil => exact absurd rfl hne
    | cons _ _ => rfl
  rw [h1, h2, List.map_map]
  have e3 : l.map (Prod.snd ∘ kvS) = sD (l.map (·.2)) := by
    show _ = (l.map (·.2)).map PyData.str
    rw [List.map_map]
    rfl
  rw [e3]
  rfl
end Gs
end
section
set_option autoImplicit false
set_option linter.all false
set_option maxRecDepth 100000
set_option maxHeartbeats 1000000
/-! Gs12: a case with other names. -/
namespace Gs
open PySem Mp Mp.Ww Gd
local macro_rules | `(tactic| ac_rfl) => `(tactic| ((repeat ((conv => whnf); first | refine XE.st _ ?_ | refine XD.st _ ?_ | refine XV.st _ ?_ | refine XA.st _ ?_ | refine XO.st _ ?_ | refine XI.st _ ?_ | refine XS.st _ ?_ | refine XSs.st _ ?_ | refine Bra.t rfl ?_ | refine Bra.f rfl ?_ | refine Opt.of rfl ?_ | refine Opt.of atI_z ?_ | refine Opt.of atI_o ?_ | refine Opt.glb (by with_reducible assumption) ?_ | refine cm_int ?_ | refine cm_is ?_ | refine cm_eq ?_ | refine cm_ne ?_ | refine cm_gen ?_ | refine look_of (cfg_gen (by assumption)) ?_ | refine look_of (cfg_loc rfl) ?_ | refine And.intro (by first | with_reducible assumption | exact rfl | exact Nat.le_of_ble_eq_true rfl | exact ⟨rfl, Nat.le_of_ble_eq_true rfl⟩ | decide | omega | (have hsz := szl; omega)) ?_ | rw [cfg_set (by assumption)] | rw [cfg_setloc] | rw [cfg_push])); (try (conv => whnf))))
variable {Γ : Nat → List Val → M Val} {gl : List PyData} {X : XT}
/-- a case, its things any names -/
structure CaseN (rel : List (Str × Nat)) (m : Nat) (x : PyData) (ts : List Str) (gs : List (List Str)) (ms : List Str) : Prop where
  eq : x = caseD ts gs ms
  things : TsOk ts
  asc : Asc gs
  flen : gs.length ≤ 40
  of : ∀ f ∈ gs, FactOf rel ts f
  len : ms.length = m
  mem : ∀ t ∈ ms, t ∈ ts
theorem CaseOk.n {rel : List (Str × Nat)} {m c : Nat} {x : PyData} {ts : List Str} {gs : List (List Str)} {ms : List Str} (h : CaseOk rel m c x ts gs ms) : CaseN rel m x ts gs ms := ⟨h.eq, h.things.ok, h.facts.asc, h.facts.len, h.facts.of, h.len, h.mem⟩
/-- t0, t1 .. -/
def tn (k : Nat) : Str := "t" ++ ((toString (k : Int) : String) : Str)
def tabL : Nat → List Str → List (Str × Str)
  | _, [] => []
  | k, o :: os => (o, tn k) :: tabL (k + 1) os
theorem tabL_fst : ∀ (os : List Str) (k : Nat), (tabL k os).map (·.1) = os
  | [], k => rfl
  | o :: os, k => by rw [tabL, List.map_cons, tabL_fst os]
theorem tabL_snd : ∀ (os : List Str) (k : Nat), (tabL k os).map (·.2) = (List.range' k os.length).map tn
  | [], k => rfl
  | o :: os, k => by rw [tabL, List.map_cons, tabL_snd os, List.length_cons, List.range'_succ, List.map_cons]
theorem tabL_len (os : List Str) (k : Nat) : (tabL k os).length = os.length := by rw [← List.length_map (f := (·.1)), tabL_fst]
theorem tabL_get : ∀ (os : List Str) (k j : Nat) (h : j < os.length), (tabL k os)[j]? = some (os[j], tn (k + j))
  | o :: os, k, 0, h => rfl
  | o :: os, k, j + 1, h => by
    rw [tabL, List.getElem?_cons_succ, tabL_get os (k + 1) j (by simpa using h)]
    congr 2
    rw [Nat.add_assoc, Nat.add_comm 1 j]
  | [], k, j, h => by simp at h
/-- the new name of a thing -/
def rho (os : List Str) (t : Str) : Str := tn (os.idxOf t)
theorem tabL_find : ∀ (os : List Str) (k : Nat) (t : Str), t ∈ os → ((tabL k os).find? fun p => decide (p.1 = t)) = some (t, tn (k + os.idxOf t))
  | o :: os, k, t, h => by
    rw [tabL, List.find?_cons]
    by_cases e : o = t
    · subst e
      simp
    · have h' : t ∈ os := by
        rcases List.mem_cons.mp h with q | q
        · exact absurd q.symm e
        · exact q
      rw [decide_eq_false e]
      dsimp only
      rw [tabL_find os (k + 1) t h', show (o :: os).idxOf t = os.idxOf t + 1 from by rw [List.idxOf_cons, show (o == t) = false from by simpa using e]; rfl, Nat.add_assoc, Nat.add_comm 1]
theorem tn_ok : ∀ n ≤ 4, n ≠ 0 → TsOk ((List.range' 0 n).map tn) := by
  intro n hn h0
  have e : n = 1 ∨ n = 2 ∨ n = 3 ∨ n = 4 := by omega
  rcases e with rfl | rfl | rfl | rfl <;> exact ⟨by decide, by decide, by decide +kernel, by decide +kernel⟩
theorem tn_sorted : ∀ n ≤ 4, (sD ((List.range' 0 n).map tn)).mergeSort (W.dataLe false id) = sD ((List.range' 0 n).map tn) := by
  intro n hn
  refine List.mergeSort_of_pairwise ?_
  have e : n = 0 ∨ n = 1 ∨ n = 2 ∨ n = 3 ∨ n = 4 := by omega
  rcases e with rfl | rfl | rfl | rfl | rfl <;> decide +kernel
theorem tn_inj {a b : Nat} (ha : a < 4) (hb : b < 4) (h : tn a = tn b) : a = b := by
  have : ∀ a < 4, ∀ b < 4, tn a = tn b → a = b := by decide +kernel
  exact this a ha b hb h
theorem rho_inj {os : List Str} (h4 : os.length ≤ 4) {a b : Str} (ha : a ∈ os) (hb : b ∈ os) (h : rho os a = rho os b) : a = b := by
  have h1 := List.idxOf_lt_length_of_mem ha
  have h2 := List.idxOf_lt_length_of_mem hb
  have e := tn_inj (by omega) (by omega) h
  have e1 := List.getElem_idxOf h1
  have e2 := List.getElem_idxOf h2
  rw [← e1, ← e2]
  congr 1
theorem rho_mem {os : List Str} {t : Str} (h : t ∈ os) : rho os t ∈ (List.range' 0 os.length).map tn := by
  have h1 := List.idxOf_lt_length_of_mem h
  exact List.mem_map.mpr ⟨_, by simp; exact h1, rfl⟩
/-- the fact with the new names -/
def rhoF (os : List Str) : List Str → List Str
  | [] => []
  | w :: r => w :: r.map (rho os)
theorem range_get {α β : Type} (f : α → β) : ∀ l : List α, (List.range l.length).filterMap (fun i => (l[i]?).map f) = l.map f
  | [] => rfl
  | x :: l => by
    rw [List.length_cons, List.range_succ_eq_map, List.filterMap_cons, List.filterMap_map]
    show f x :: _ = f x :: l.map f
    rw [← range_get f l]
    rfl
theorem str_pu {i : Int} {K : PyData → Prop} (h : i.natAbs.log2 < 1920) (k : K (.str ((toString i : String) : Str))) : Pu (b1D .str (.int i)) K := by
  refine Pu.of (fun S => ?_) k
  show bnd (guard (decide (i.natAbs.log2 < 1920))) (fun _ => ret (PyData.str (toString i : String))) S = _
  rw [decide_eq_true h]
  rfl
def RenamedS (F : List Val → M Val) : Prop := ∀ (rel : List (Str × Nat)) (m : Nat) (x : PyData) (ts : List Str) (gs : List (List Str)) (ms : List Str), rel ∈ RELS → m ≤ 100 → CaseN rel m x ts gs ms →
  GW F [.d x] 100 (fun v => ∃ os : List Str, os.Perm ts ∧ v = .d (caseD ((List.range' 0 os.length).map tn) ((gs.map (rhoF os)).mergeSort leF) (ms.map (rho os))))
theorem renamed_ok {ko : Nat} (order : OrderS (Γ ko)) : RenamedS ((A__law_renamed ko).run Γ gl) := by
  intro rel m x ts gs ms hrel hm100 C
  have hsz := szl
  have ht4 := C.things.four
  have ht1 := C.things.pos
  rw [C.eq]
  refine GW.run rfl fun S i g b hi ok hb => ?_
  ac_rfl
  refine GW.call (order (sD ts) (by rw [List.length_map]; omega)) ok hi (by rw [List.length_map]; omega) fun v g1 ok1 p => ?_
  rw [List.length_map] at ok1
  obtain ⟨ys, rfl, perm⟩ := p
  obtain ⟨os, rfl, perm2⟩ := perm_strs perm
  have hol : os.length = ts.length := perm2.length_eq
  have hol1 : (sD os).length = ts.length := by rw [List.length_map]; exact hol
  have hom : ∀ t, t ∈ os ↔ t ∈ ts := fun t => perm2.mem_iff
  have hnd : os.Nodup := perm2.nodup_iff.mpr C.things.nodup
  have hos : os ≠ [] := fun e => by rw [e] at hol; simp at hol; omega
  have hlay : ∀ t ∈ os, Lay t := fun t h => C.things.lay t ((hom t).mp h)
  have hat : ∀ j (h : j < os.length), L2.atI (sD os) (0 + (j : Int)) = some (.str os[j]) := fun j h => by
    rw [Int.zero_add, atI_nat, List.getElem?_map, List.getElem?_eq_getElem h]
    rfl
  have hstr : ∀ j : Nat, j < 4 → ((toString (0 + (j : Int)) : String) : Str).length ≤ 10 ∧ (0 + (j : Int)).natAbs.log2 < 1920 ∧ ("t" : Str) ++ ((toString (0 + (j : Int)) : String) : Str) = tn j := by decide +kernel
  have hget : ∀ t ∈ os, ((tabL 0 os).find? fun p => decide (p.1 = t)) = some (t, rho os t) := fun t h => by
    rw [tabL_find os 0 t h, Nat.zero_add]
    rfl
  ac_rfl
  refine Wp.lcr (fun j => ((tabL 0 os)[j.toNat]?).map prD) here_none (fun j hj => ?_) ?_
  · have hj : j < os.length := by omega
    obtain ⟨q1, q2, q3⟩ := hstr j (by omega)
    refine Wp.lcB ?_
    ac_rfl
    refine Opt.of (hat j hj) ?_
    ac_rfl
    refine str_pu q2 ?_
    ac_rfl
    refine ⟨by show 1 + _ ≤ _; omega, ?_⟩
    ac_rfl
    refine ⟨?_, rfl⟩
    rw [q3, show (0 + (j : Int)).toNat = j by omega, tabL_get os 0 j hj, Nat.zero_add]
    rfl
  · have e : (List.range (((sD os).length : Int)).toNat).filterMap (fun j => ((tabL 0 os)[(0 + ((j : Nat) : Int)).toNat]?).map prD) = (tabL 0 os).map prD := by
      have q : (((sD os).length : Int)).toNat = (tabL 0 os).length := by rw [tabL_len]; omega
      rw [q, ← range_get prD (tabL 0 os)]
      refine fmCongr fun j _ => ?_
      rw [show (0 + (j : Int)).toNat = j by omega]
    rw [e]
    refine ⟨by rw [List.length_map, tabL_len]; omega, ?_⟩
    ac_rfl
    refine dict_pu (by rw [tabL_fst]; exact hnd) (by rw [tabL_len]; omega) ?_
    ac_rfl
    refine lc_mapH (as := gs) factD (fun f => factD (rhoF os f)) here_none (fun f hf => ?_) ?_
    · obtain ⟨w, r, p, rfl, hp, hl, hr⟩ := C.of f hf
      have hp3 := rels_le rel hrel _ hp
      simp only at hp3
      refine Wp.lcB ?_
      ac_rfl
      rw [show cutD (sD (w :: r)) (some 1) none = sD r from cut_tail]
      refine lc_mapH (as := r) PyData.str (fun t => .str (rho os t)) here_none (fun t ht => ?_) ?_
      · refine Wp.lcB ?_
        ac_rfl
        refine ix_dict (hget t ((hom t).mpr (hr t ht))) ?_
        ac_rfl
      · refine ⟨by rw [List.length_map]; omega, ?_⟩
        rw [show cutD (sD (w :: r)) none (some 1) = [.str w] from by rw [cut_to (by decide)]; rfl]
        ac_rfl
        refine ⟨by simp; omega, ?_⟩
        ac_rfl
        refine ⟨?_, rfl⟩
        show some (PyData.tuple (.str w :: r.map fun t => .str (rho os t))) = some (PyData.tuple (.str w :: (r.map (rho os)).map PyData.str))
        rw [List.map_map]
        rfl
    · have hgl := C.flen
      refine ⟨by rw [List.length_map]; omega, ?_⟩
      ac_rfl
      have hF : Facts (gs.map (rhoF os)) := by
        refine ⟨fun f hf => ?_, fun f hf t ht => ?_⟩
        · obtain ⟨f, hf', rfl⟩ := List.mem_map.mp hf
          obtain ⟨w, r, p, rfl, _⟩ := C.of f hf'
          simp [rhoF]
        · obtain ⟨f, hf', rfl⟩ := List.mem_map.mp hf
          obtain ⟨w, r, p, rfl, hp, hl, hr⟩ := C.of f hf'
          rcases List.mem_cons.mp ht with rfl | ht
          · exact rels_lay rel hrel _ hp
          · obtain ⟨u, hu, rfl⟩ := List.mem_map.mp ht
            exact (tn_ok os.length (by omega) (by omega)).lay _ (rho_mem ((hom u).mpr (hr u hu)))
      refine svals_pu (fun e => hos (by rw [← tabL_fst os 0, e]; rfl)) (fun p hp => ?_) (by rw [tabL_len]; omega) ?_
      · have : p.2 ∈ (tabL 0 os).map (·.2) := List.mem_map.mpr ⟨p, hp, rfl⟩
        rw [tabL_snd] at this
        exact (tn_ok os.length (by omega) (by omega)).lay _ this
      rw [tabL_snd, tn_sorted os.length (by omega)]
      ac_rfl
      rw [show gs.map (fun f => factD (rhoF os f)) = (gs.map (rhoF os)).map factD from by rw [List.map_map]; rfl]
      refine sorted_pu hF (by rw [List.length_map]; omega) ?_
      ac_rfl
      refine lc_mapH (as := ms) PyData.str (fun t => .str (rho os t)) here_none (fun t ht => ?_) ?_
      · refine Wp.lcB ?_
        ac_rfl
        refine ix_dict (hget t ((hom t).mpr (C.mem t ht))) ?_
        ac_rfl
      · have := C.len
        refine ⟨by rw [List.length_map]; omega, ?_⟩
        ac_rfl
        refine EndG.d (ok1.le (by omega)) ⟨os, perm2, ?_⟩
        rw [show ms.map (fun t => PyData.str (rho os t)) = (ms.map (rho os)).map PyData.str from by rw [List.map_map]; rfl]
        rfl
end Gs
end
section
set_option autoImplicit false
set_option linter.all false
set_option maxRecDepth 100000
set_option maxHeartbeats 1000000
/-! Gs13: cases drawn, some of them renamed ones. -/
namespace Gs
open PySem Mp Mp.Ww Gd
local macro_rules | `(tactic| ac_rfl) => `(tactic| ((repeat ((conv => whnf); first | refine XE.st _ ?_ | refine XD.st _ ?_ | refine XV.st _ ?_ | refine XA.st _ ?_ | refine XO.st _ ?_ | refine XI.st _ ?_ | refine XS.st _ ?_ | refine XSs.st _ ?_ | refine Bra.t rfl ?_ | refine Bra.f rfl ?_ | refine Opt.of rfl ?_ | refine Opt.of atI_z ?_ | refine Opt.of atI_o ?_ | refine Opt.glb (by with_reducible assumption) ?_ | refine cm_int ?_ | refine cm_is ?_ | refine cm_eq ?_ | refine cm_ne ?_ | refine cm_gen ?_ | refine look_of (cfg_gen (by assumption)) ?_ | refine look_of (cfg_loc rfl) ?_ | refine And.intro (by first | with_reducible assumption | exact rfl | exact Nat.le_of_ble_eq_true rfl | exact ⟨rfl, Nat.le_of_ble_eq_true rfl⟩ | decide | omega | (have hsz := szl; omega)) ?_ | rw [cfg_set (by assumption)] | rw [cfg_setloc] | rw [cfg_push])); (try (conv => whnf))))
variable {Γ : Nat → List Val → M Val} {gl : List PyData} {X : XT}
theorem Asc.nodup {gs : List (List Str)} (h : Asc gs) : gs.Nodup := h.imp fun {a b} q e => by
  rw [e, ltF_irrefl] at q
  cases q
theorem sort_asc {fs : List (List Str)} (h : fs.Nodup) : Asc (fs.mergeSort leF) := by
  unfold Asc
  have h1 := List.pairwise_mergeSort (le := leF) leF_trans leF_total fs
  have h2 : (fs.mergeSort leF).Nodup := (List.mergeSort_perm _ _).nodup_iff.mpr h
  refine List.Pairwise.imp₂ (fun a b h h' => ?_) h1 h2
  cases q : ltF a b with
  | true => rfl
  | false =>
    rw [leF_lt, Bool.not_eq_true'] at h
    exact absurd (ltF_total q h) h'
theorem map_inj_on {α β : Type} {f : α → β} : ∀ {a b : List α}, (∀ x ∈ a, ∀ y ∈ b, f x = f y → x = y) → a.map f = b.map f → a = b
  | [], [], _, _ => rfl
  | x :: a, y :: b, h, e => by
    rw [List.map_cons, List.map_cons, List.cons.injEq] at e
    rw [h x (List.mem_cons_self ..) y (List.mem_cons_self ..) e.1, map_inj_on (fun u hu v hv => h u (List.mem_cons_of_mem _ hu) v (List.mem_cons_of_mem _ hv)) e.2]
  | [], _ :: _, _, e => by cases e
  | _ :: _, [], _, e => by cases e
theorem nodup_map_on {α β : Type} {f : α → β} : ∀ {l : List α}, (∀ x ∈ l, ∀ y ∈ l, f x = f y → x = y) → l.Nodup → (l.map f).Nodup
  | [], _, _ => List.nodup_nil
  | x :: l, h, n => by
    rw [List.nodup_cons] at n
    rw [List.map_cons, List.nodup_cons]
    refine ⟨fun q => ?_, nodup_map_on (fun a ha b hb => h a (List.mem_cons_of_mem _ ha) b (List.mem_cons_of_mem _ hb)) n.2⟩
    obtain ⟨y, hy, e⟩ := List.mem_map.mp q
    have := h y (List.mem_cons_of_mem _ hy) x (List.mem_cons_self ..) e
    exact n.1 (this ▸ hy)
theorem rhoF_fact {rel : List (Str × Nat)} {ts os : List Str} (hp : os.Perm ts) {f : List Str} (h : FactOf rel ts f) : FactOf rel ((List.range' 0 os.length).map tn) (rhoF os f) := by
  obtain ⟨w, r, p, rfl, hm, hl, ht⟩ := h
  refine ⟨w, _, p, rfl, hm, by rw [List.length_map]; exact hl, fun t htm => ?_⟩
  obtain ⟨u, hu, rfl⟩ := List.mem_map.mp htm
  exact rho_mem (hp.mem_iff.mpr (ht u hu))
theorem renamed_n {rel : List (Str × Nat)} {m : Nat} {x : PyData} {ts os : List Str} {gs : List (List Str)} {ms : List Str} (C : CaseN rel m x ts gs ms) (hp : os.Perm ts) :
    CaseN rel m (caseD ((List.range' 0 os.length).map tn) ((gs.map (rhoF os)).mergeSort leF) (ms.map (rho os))) ((List.range' 0 os.length).map tn) ((gs.map (rhoF os)).mergeSort leF) (ms.map (rho os)) := by
  have h4 : os.length ≤ 4 := by rw [hp.length_eq]; exact C.things.four
  have h1 : os.length ≠ 0 := by rw [hp.length_eq]; have := C.things.pos; omega
  have inj : ∀ a ∈ gs, ∀ b ∈ gs, rhoF os a = rhoF os b → a = b := by
    intro a ha b hb e
    obtain ⟨w, r, p, rfl, _, _, hr⟩ := C.of a ha
    obtain ⟨w', r', p', rfl, _, _, hr'⟩ := C.of b hb
    rw [rhoF, rhoF, List.cons.injEq] at e
    rw [e.1, map_inj_on (fun x hx y hy q => rho_inj h4 (hp.mem_iff.mpr (hr x hx)) (hp.mem_iff.mpr (hr' y hy)) q) e.2]
  refine ⟨rfl, tn_ok _ h4 h1, sort_asc (nodup_map_on inj C.asc.nodup), ?_, fun f hf => ?_, by rw [List.length_map]; exact C.len, fun t ht => ?_⟩
  · rw [List.length_mergeSort, List.length_map]
    exact C.flen
  · have hf := (List.mergeSort_perm _ _).mem_iff.mp hf
    obtain ⟨f, hf', rfl⟩ := List.mem_map.mp hf
    exact rhoF_fact hp (C.of f hf')
  · obtain ⟨u, hu, rfl⟩ := List.mem_map.mp ht
    exact rho_mem (hp.mem_iff.mpr (C.mem u hu))
def DrawnS (F : List Val → M Val) : Prop := ∀ (n mo : Nat) (p q : Int), n ≤ 4 → (1 ≤ mo ∧ mo ≤ 4) → (0 ≤ p ∧ p < 2 ^ 60) →
  GW F [.d (.int n), .d (.int mo), .d (.tuple [.int p, .int q])] 200000 (fun v => ∃ (rel : List (Str × Nat)) (m : Nat) (xs : List PyData), v = .d (.tuple [.list xs, relsD rel, .int m]) ∧ rel ∈ RELS ∧ m ≤ 3 ∧ (m : Int) ≤ p ∧ xs.length = n ∧ ∀ x ∈ xs, ∃ ts gs ms, CaseN rel m x ts gs ms)
theorem drawn_ok {kr kn kc kl : Nat} (random : RandS (Γ kr)) (renamed : RenamedS (Γ kn)) (cases : CasesS (Γ kc)) (relations : RelS (Γ kl)) : DrawnS ((A__law_drawn_cases kr kn kc kl).run Γ gl) := by
  intro n mo p q hn hmo hp
  have hsz := szl
  refine GW.run rfl fun S i g b hi ok hb => ?_
  ac_rfl
  refine GW.call relations ok hi (by omega) fun v g1 ok1 h => ?_
  obtain ⟨rel, hrel, rfl⟩ := h
  ac_rfl
  refine min_pu ?_
  ac_rfl
  have hmin : 0 ≤ (if 2 < p then 2 else p) ∧ (if 2 < p then 2 else p) ≤ 2 ∧ (if 2 < p then 2 else p) ≤ p := by split <;> omega
  refine GW.call (random (1 + if 2 < p then 2 else p) ⟨by omega, by omega⟩) ok1 hi (by omega) fun v g2 ok2 h => ?_
  obtain ⟨r, rfl, r0, r1⟩ := h
  ac_rfl
  refine Bra.joinA (fun env T => ∃ (m : Nat) (o6 o7 : Option Val) (g' : List PyData), env = [some (.c i), some (.d (.int n)), some (.d (.int mo)), some (.d (.tuple [.int p, .int q])), some (.d (relsD rel)), some (.d (.int m)), o6, o7] ∧ T = cfg S i g' [] ∧ m ≤ 3 ∧ (m : Int) ≤ p ∧ GenOk (b + 100) g') ?_ (fun hlt => ?_) fun _ => ?_
  · rintro env T ⟨m, o6, o7, g3, rfl, rfl, hm, hmp, ok3⟩
    ac_rfl
    have mo_ok : ∃ mo' : Nat, (1 ≤ mo' ∧ mo' ≤ 4) ∧ True := ⟨1, by omega, trivial⟩
    have tail : ∀ (mo' : Nat), (1 ≤ mo' ∧ mo' ≤ 4) → Wp (Γ kc [.c i, .d (.int n), .d (.int mo'), .d (.int m), .d (relsD rel)]) (fun v T => ∃ xs g', v = .c (cfg S i g3 []).length ∧ T = cfg S i g' [some (.l xs)] ∧ GenOk (b + 100 + 100000) g' ∧ xs.length = n ∧ ∀ x ∈ xs, ∃ ts gs ms, CaseN rel m x ts gs ms) nx (cfg S i g3 []) := by
      intro mo' hmo'
      refine GWR.call (cases n mo' m rel hn hmo' (by omega) hrel) ok3 hi (by omega) fun xs g4 ok4 h => ?_
      exact ⟨xs, g4, rfl, rfl, ok4, h.1, fun x hx => by
        obtain ⟨ts, gs, ms, hC⟩ := h.2 x hx
        exact ⟨ts, gs, ms, hC.n⟩⟩
    have rest : ∀ (v : Val) (T : Store), (∃ xs g', v = .c (cfg S i g3 []).length ∧ T = cfg S i g' [some (.l xs)] ∧ GenOk (b + 100 + 100000) g' ∧ xs.length = n ∧ ∀ x ∈ xs, ∃ ts gs ms, CaseN rel m x ts gs ms) → XSs Γ gl nx (match (A__law_drawn_cases kr kn kc kl).body with | .cons _ (.cons _ (.cons _ b)) => b | _ => .nil) [some (.c i), some (.d (.int n)), some (.d (.int mo)), some (.d (.tuple [.int p, .int q])), some (.d (relsD rel)), some (.d (.int m)), some v, o7] (endX S false (EndG S i b 200000 (fun v => ∃ (rel : List (Str × Nat)) (m : Nat) (xs : List PyData), v = .d (.tuple [.list xs, relsD rel, .int m]) ∧ rel ∈ RELS ∧ m ≤ 3 ∧ (m : Int) ≤ p ∧ xs.length = n ∧ ∀ x ∈ xs, ∃ ts gs ms, CaseN rel m x ts gs ms))) T := by
      rintro v T ⟨xs, g4, rfl, rfl, ok4, hxn, hxs⟩
      ac_rfl
      refine Wp.forD (fun dn env T => ∃ (xs : List PyData) (o : Option Val) (g' : List PyData), env = [some (.c i), some (.d (.int n)), some (.d (.int mo)), some (.d (.tuple [.int p, .int q])), some (.d (relsD rel)), some (.d (.int m)), some (.c (cfg S i g3 []).length), o] ∧ T = cfg S i g' [some (.l xs)] ∧
        xs.length = n ∧ (∀ x ∈ xs, ∃ ts gs ms, CaseN rel m x ts gs ms) ∧ GenOk (b + 100 + 100000 + 200 * dn.length) g') (fun _ _ _ _ => here_none) (fun dn v vs env T hits inv => ?_) (fun env T inv => ?_) ⟨xs, _, g4, rfl, rfl, hxn, hxs, by simpa using ok4⟩
      · obtain ⟨xs, o, g5, rfl, rfl, hxn, hxs, ok5⟩ := inv
        have hlen := congrArg List.length hits
        rw [rng_len] at hlen
        simp at hlen
        have hv : v ∈ rng 1 ((n : Int) - 1).toNat := by
          have : (rng 1 ((n : Int) - 1).toNat) = dn ++ v :: vs := hits
          rw [this]
          simp
        unfold rng at hv
        obtain ⟨j, hj, rfl⟩ := List.mem_map.mp hv
        rw [List.mem_range] at hj
        have hdl : (dn ++ [Val.d (PyData.int (1 + (j : Int)))]).length = dn.length + 1 := by simp
        refine Wp.foB ?_
        ac_rfl
        refine GW.call (random 7 ⟨by omega, by omega⟩) ok5 hi (by omega) fun v g6 ok6 h => ?_
        obtain ⟨r, rfl, r0, r1⟩ := h
        ac_rfl
        refine Bra.both (fun _ => ?_) fun _ => ?_
        · ac_rfl
          obtain ⟨x, hx, ex⟩ := atI_some (xs := xs) (r := 1 + (j : Int) - 1) (by omega) (by omega)
          refine Opt.of ex ?_
          ac_rfl
          obtain ⟨ts, gs, ms, hC⟩ := hxs x hx
          refine GW.call (renamed rel m x ts gs ms hrel (by omega) hC) ok6 hi (by omega) fun v g7 ok7 h => ?_
          obtain ⟨os, hperm, rfl⟩ := h
          ac_rfl
          refine Opt.of (ixN_int (by omega) (by omega)) ?_
          ac_rfl
          refine ⟨_, _, g7, rfl, rfl, by rw [List.length_set]; exact hxn, fun y hy => ?_, ok7.le (by rw [hdl]; omega)⟩
          rcases List.mem_or_eq_of_mem_set hy with h | rfl
          · exact hxs y h
          · exact ⟨_, _, _, renamed_n hC hperm⟩
        · ac_rfl
          exact ⟨xs, _, g6, rfl, rfl, hxn, hxs, ok6.le (by rw [hdl]; omega)⟩
      · obtain ⟨xs, o, g5, rfl, rfl, hxn, hxs, ok5⟩ := inv
        rw [rng_len] at ok5
        ac_rfl
        exact EndG.d (ok5.le (by omega)) ⟨rel, m, xs, rfl, hrel, hm, hmp, hxn, hxs⟩
    refine Bra.both (fun _ => ?_) fun _ => ?_
    · ac_rfl
      exact (tail mo hmo).post fun v T h => rest v T h
    · ac_rfl
      refine min_pu ?_
      ac_rfl
      have e : (if (3 : Int) < mo then (3 : Int) else mo) = ((if 3 < mo then 3 else mo : Nat) : Int) := by split <;> split <;> omega
      rw [e]
      exact (tail _ (by split <;> omega)).post fun v T h => rest v T h
  · have hlt := of_decide_eq_true hlt
    ac_rfl
    refine GW.call (random 2 ⟨by omega, by omega⟩) ok2 hi (by omega) fun v g3 ok3 h => ?_
    obtain ⟨r', rfl, r0', r1'⟩ := h
    ac_rfl
    refine Bra.both (fun _ => ?_) fun _ => ?_
    · ac_rfl
      refine ⟨r.toNat + 1, none, none, g3, ?_, rfl, by omega, by omega, ok3.le (by omega)⟩
      rw [show ((r.toNat + 1 : Nat) : Int) = r + 1 by omega]
      rfl
    · ac_rfl
      refine ⟨r.toNat, none, none, g3, ?_, rfl, by omega, by omega, ok3.le (by omega)⟩
      rw [show ((r.toNat : Nat) : Int) = r by omega]
      rfl
  · ac_rfl
    refine ⟨r.toNat, none, none, g2, ?_, rfl, by omega, by omega, ok2.le (by omega)⟩
    rw [show ((r.toNat : Nat) : Int) = r by omega]
    rfl
end Gs
end
section
set_option autoImplicit false
set_option linter.all false
set_option maxRecDepth 100000
set_option maxHeartbeats 2000000
/-! Gs14: what a law is; a generator just made. -/
namespace Gs
open PySem Mp Mp.Ww Gd
variable {Γ : Nat → List Val → M Val} {gl : List PyData} {X : XT}
def LawS (F : List Val → M Val) : Prop := ∀ (ns : List Int) (S : Store), ∃ S', F [.scr ns] S = .ok (.d (.bool true)) S'
theorem GW.at {k : Nat} {vs : List Val} {K b : Nat} {P : Val → Prop} {T : Store} {g : List PyData} {Q : Val → Store → Prop} (h : GW (Γ k) vs K P) (ok : GenOk b g) (hb : b + K ≤ most) (q : ∀ v T', P v → Q v T') : Wp (Γ k (.c T.length :: vs)) Q X (T ++ [some (.l g)]) := by
  obtain ⟨v, g', e, ok', p⟩ := h (T ++ [some (.l g)]) T.length g b (by rw [List.getElem?_append_right (Nat.le_refl _), Nat.sub_self]; rfl) ok hb
  exact Wp.of e (q v _ p)
end Gs
end
section
set_option autoImplicit false
set_option linter.all false
set_option maxRecDepth 100000
set_option maxHeartbeats 1000000
/-! Ps0: names and facts, as the program tells them and as the law does. -/
namespace Gs
open PySem Mp Mp.Ww Gd
local macro_rules | `(tactic| ac_rfl) => `(tactic| ((repeat ((conv => whnf); first | refine XE.st _ ?_ | refine XD.st _ ?_ | refine XV.st _ ?_ | refine XA.st _ ?_ | refine XO.st _ ?_ | refine XI.st _ ?_ | refine XS.st _ ?_ | refine XSs.st _ ?_ | refine Bra.t rfl ?_ | refine Bra.f rfl ?_ | refine Opt.of rfl ?_ | refine Opt.of atI_z ?_ | refine Opt.of atI_o ?_ | refine Opt.glb (by with_reducible assumption) ?_ | refine cm_int ?_ | refine cm_is ?_ | refine cm_eq ?_ | refine cm_ne ?_ | refine cm_gen ?_ | refine look_of (cfg_gen (by assumption)) ?_ | refine look_of (cfg_loc rfl) ?_ | refine And.intro (by first | with_reducible assumption | exact rfl | exact Nat.le_of_ble_eq_true rfl | exact ⟨rfl, Nat.le_of_ble_eq_true rfl⟩ | decide | omega | (have hsz := szl; omega)) ?_ | rw [cfg_set (by assumption)] | rw [cfg_setloc] | rw [cfg_push])); (try (conv => whnf))))
variable {Γ : Nat → List Val → M Val} {gl : List PyData} {X : XT}
/-- one sign as a text -/
abbrev chr (c : Nat) : PyData := .str ⟨#[c]⟩
theorem in_chr {z : Str} {c : Nat} {K : Bool → Prop} (k : K (has z c)) : PuB (cmpD .in (chr c) (.str z)) K := by
  refine PuB.of (fun S => ?_) k
  show ret (!(Builtin.Str.occurrences z ⟨#[c]⟩ 0 z.length 1).isEmpty) S = _
  rw [StrLaws.found_one]
  rfl
theorem notin_chr {z : Str} {c : Nat} {K : Bool → Prop} (k : K (!has z c)) : PuB (cmpD .notin (chr c) (.str z)) K := by
  refine PuB.of (fun S => ?_) k
  show bnd (ret (!(Builtin.Str.occurrences z ⟨#[c]⟩ 0 z.length 1).isEmpty)) (fun r => ret (!r)) S = _
  rw [StrLaws.found_one]
  rfl
theorem find_chr {z : Str} {c : Nat} : decide (Txt.find z ⟨#[c]⟩ < 0) = !has z c := by
  have q := StrLaws.found_one z c
  unfold Txt.find has
  rw [← q]
  cases Builtin.Str.occurrences z ⟨#[c]⟩ 0 z.length 1 with
  | nil => rfl
  | cons i r => simp
theorem find_pu {z y : Str} {K : PyData → Prop} (k : K (.int (Txt.find z y))) : Pu (m1D .find (.str z) (.str y)) K := Pu.of (fun S => rfl) k
theorem lc_filterV {α : Type} {p : Option (Nat × List PyData)} {f : Val → M (Option PyData)} {Q : List PyData → Store → Prop} {as : List α} {S : Store} (h : α → PyData) (b : α → Bool) (hp : Here p S)
    (k : ∀ a ∈ as, Wp (f (.d (h a))) (fun o T => o = (if b a = true then some (h a) else none) ∧ T = S) X S) (q : Q ((as.filter b).map h) S) : Wp (lcL p f (as.map fun a => .d (h a)) []) Q X S := by
  have e : (as.map fun a => Val.d (h a)) = (as.map h).map Val.d := by rw [List.map_map]; rfl
  rw [e]
  exact lc_filterH h b hp k q
theorem isEmpty_filter {α β : Type} (b : α → Bool) (h : α → β) (as : List α) : ((as.filter b).map h).isEmpty = as.all fun a => !b a := by
  induction as with
  | nil => rfl
  | cons a as ih =>
    rw [List.filter_cons, List.all_cons]
    cases b a with
    | true => rfl
    | false => rw [← ih]; rfl
theorem cut_str {z : Str} : (L2.cutS z (some 1) none).cps.toList = z.cps.toList.drop 1 := by
  unfold L2.cutS
  rw [HT.sIx_none, sIx_int (by decide)]
  have e : z.length = z.cps.toList.length := by simp [Str.length]
  rw [e]
  simp only [List.toList_toArray]
  rw [List.take_of_length_le]
  · rcases h : z.cps.toList with _ | ⟨c, cs⟩
    · rfl
    · show List.drop (min 1 _) _ = _
      rw [Nat.min_eq_left (by simp)]
  · rw [List.length_drop]
    omega
theorem has_append (a b : Str) (d : Nat) : has (a ++ b) d = (has a d || has b d) := by
  unfold has
  have e : (a ++ b).cps.toList = a.cps.toList ++ b.cps.toList := Array.toList_append
  rw [e]
  simp [List.mem_append]
/-- texts that fit -/
def lenOk (v : PyData) : Prop := ∀ x, v = .str x → x.length ≤ sizeLine
def spelledD (f : Str) (v : PyData) : Bool := match v with
  | .str x => spelled f x
  | _ => false
def SpelledS (F : List Val → M Val) : Prop := ∀ (v : PyData) (f : Str) (S : Store), lenOk v → F [.d v, .d (.str f)] S = .ok (.d (.bool (spelledD f v))) S
theorem str_cons {x : Str} (h : 1 ≤ x.length) : ∃ c cs, x.cps.toList = c :: cs ∧ x.length = cs.length + 1 := by
  have e : x.length = x.cps.toList.length := by simp [Str.length]
  rcases q : x.cps.toList with _ | ⟨c, cs⟩
  · rw [q] at e
    simp at e
    omega
  · exact ⟨c, cs, rfl, by rw [e, q]; rfl⟩
theorem ix0_pu {x : Str} {c : Nat} {cs : List Nat} {K : PyData → Prop} (h : x.length ≤ sizeLine) (e : x.cps.toList = c :: cs) (k : K (chr c)) : Pu (ixD (.str x) (.int 0)) K := by
  refine Pu.of (fun S => ?_) k
  show bnd (guard (decide (x.length ≤ sizeLine))) (fun _ => bnd (ofO (L2.atI x.cps.toList 0)) fun c => ret (PyData.str ⟨#[c]⟩)) S = _
  rw [decide_eq_true h, e, atI_z]
  rfl
theorem spelled_eq {z x : Str} {c : Nat} {cs : List Nat} (e : x.cps.toList = c :: cs) : spelled z x = (decide (cs.length < 8) && (has z c && cs.all fun d => has SMALL d || has FIGURES d)) := by
  unfold spelled
  rw [e]
theorem spelled_no {z x : Str} (h : ¬ (1 ≤ x.length ∧ x.length ≤ 8)) : spelled z x = false := by
  cases q : spelled z x with
  | false => rfl
  | true => exact absurd (spelled_len q) h
theorem bool_end {S : Store} {a b : Bool} (h : a = b) : Val.d (.bool a) = Val.d (.bool b) ∧ List.take (List.length S) S = S := ⟨by rw [h], List.take_length⟩
theorem spelled_ok {s f : Nat} (hs : gl[s]? = some (.str SMALL)) (hf : gl[f]? = some (.str FIGURES)) : SpelledS ((A_is_spelled s f).run Γ gl) := by
  intro v z S hv
  refine Wp.eq (Wp.run rfl ?_)
  cases v with
  | str x =>
    have hx := hv x rfl
    ac_rfl
    by_cases h1 : 1 ≤ x.length
    · obtain ⟨c, cs, e, el⟩ := str_cons h1
      refine Bra.t (by simp; omega) ?_
      ac_rfl
      by_cases h8 : x.length ≤ 8
      · have h8' : cs.length < 8 := by omega
        refine Bra.f (by simp; omega) ?_
        ac_rfl
        refine ix0_pu hx e ?_
        ac_rfl
        refine notin_chr ?_
        ac_rfl
        refine Bra.both (fun hc => ?_) fun hc => ?_
        · ac_rfl
          refine bool_end ?_
          show _ = spelled z x
          rw [spelled_eq e]
          rw [Bool.not_eq_true'] at hc
          rw [hc]
          simp
        · rw [Bool.not_eq_false'] at hc
          ac_rfl
          rw [cut_str, e]
          refine lc_filterV (as := cs) chr (fun d => !has SMALL d && !has FIGURES d) here_none (fun d hd => ?_) ?_
          · refine Wp.lcB ?_
            ac_rfl
            refine notin_chr ?_
            ac_rfl
            refine Bra.both (fun hc => ?_) fun hc => ?_
            · ac_rfl
              refine notin_chr ?_
              ac_rfl
              refine Bra.both (fun hc' => ?_) fun hc' => ?_
              · ac_rfl
                refine ⟨?_, rfl⟩
                rw [hc, hc']
                rfl
              · ac_rfl
                refine ⟨?_, rfl⟩
                rw [hc, hc']
                rfl
            · ac_rfl
              refine ⟨?_, rfl⟩
              rw [hc]
              rfl
          · have hl := List.length_filter_le (fun d => !has SMALL d && !has FIGURES d) cs
            refine ⟨by rw [List.length_map]; omega, ?_⟩
            ac_rfl
            refine eq_nil ?_
            ac_rfl
            refine bool_end ?_
            show _ = spelled z x
            rw [spelled_eq e, isEmpty_filter, hc, decide_eq_true h8']
            simp
      · refine Bra.t (by simp; omega) ?_
        ac_rfl
        refine bool_end ?_
        show _ = spelled z x
        rw [spelled_no (by omega)]
    · refine Bra.f (by simp; omega) ?_
      ac_rfl
      refine bool_end ?_
      show _ = spelled z x
      rw [spelled_no (by omega)]
  | _ =>
    ac_rfl
    exact List.take_length
def NameS (F : List Val → M Val) : Prop := ∀ (v : PyData) (S : Store), lenOk v → F [.d v] S = .ok (.d (.bool (spelledD SMALL v))) S
def CapS (F : List Val → M Val) : Prop := ∀ (v : PyData) (S : Store), lenOk v → F [.d v] S = .ok (.d (.bool (spelledD CAPITAL v))) S
theorem name_ok {k s : Nat} (spelled : SpelledS (Γ k)) (hs : gl[s]? = some (.str SMALL)) : NameS ((A_is_name k s).run Γ gl) := by
  intro v S hv
  refine Wp.eq (Wp.run rfl ?_)
  ac_rfl
  refine Wp.of (spelled v SMALL S hv) ?_
  ac_rfl
  exact List.take_length
theorem cap_ok {k s : Nat} (spelled : SpelledS (Γ k)) (hs : gl[s]? = some (.str CAPITAL)) : CapS ((A_is_derived_name k s).run Γ gl) := by
  intro v S hv
  refine Wp.eq (Wp.run rfl ?_)
  ac_rfl
  refine Wp.of (spelled v CAPITAL S hv) ?_
  ac_rfl
  exact List.take_length
/-! ### the law's own -/
def DueWordS (F : List Val → M Val) : Prop := ∀ (v : PyData) (f : Str) (S : Store), lenOk v → F [.d v, .d (.str f)] S = .ok (.d (.bool (spelledD f v))) S
theorem dueword_ok : DueWordS (A__law_due_word.run Γ gl) := by
  intro v z S hv
  refine Wp.eq (Wp.run rfl ?_)
  cases v with
  | str x =>
    have hx := hv x rfl
    ac_rfl
    by_cases h1 : 1 ≤ x.length
    · obtain ⟨c, cs, e, el⟩ := str_cons h1
      refine Bra.f (by simp; omega) ?_
      ac_rfl
      by_cases h8 : x.length ≤ 8
      · have h8' : cs.length < 8 := by omega
        refine Bra.f (by simp; omega) ?_
        ac_rfl
        refine ix0_pu hx e ?_
        ac_rfl
        refine find_pu ?_
        ac_rfl
        rw [find_chr]
        refine Bra.both (fun hc => ?_) fun hc => ?_
        · ac_rfl
          refine bool_end ?_
          show _ = spelled z x
          rw [spelled_eq e]
          rw [Bool.not_eq_true'] at hc
          rw [hc]
          simp
        · rw [Bool.not_eq_false'] at hc
          ac_rfl
          rw [cut_str, e]
          refine lc_filterV (as := cs) chr (fun d => !(has SMALL d || has FIGURES d)) here_none (fun d hd => ?_) ?_
          · refine Wp.lcB ?_
            ac_rfl
            refine find_pu ?_
            ac_rfl
            rw [find_chr, show has (Str.ofString "abcdefghijklmnopqrstuvwxyz" ++ Str.ofString "0123456789") d = (has SMALL d || has FIGURES d) from has_append _ _ d]
            refine Bra.both (fun hc' => ?_) fun hc' => ?_
            · ac_rfl
              refine ⟨?_, rfl⟩
              rw [if_pos hc']
            · ac_rfl
              refine ⟨?_, rfl⟩
              rw [hc']
              rfl
          · have hl := List.length_filter_le (fun d => !(has SMALL d || has FIGURES d)) cs
            refine ⟨by rw [List.length_map]; omega, ?_⟩
            ac_rfl
            refine eq_nil ?_
            ac_rfl
            refine bool_end ?_
            show _ = spelled z x
            rw [spelled_eq e, isEmpty_filter, hc, decide_eq_true h8']
            simp
      · refine Bra.t (by simp; omega) ?_
        ac_rfl
        refine bool_end ?_
        show _ = spelled z x
        rw [spelled_no (by omega)]
    · refine Bra.t (by simp; omega) ?_
      ac_rfl
      refine bool_end ?_
      show _ = spelled z x
      rw [spelled_no (by omega)]
  | _ =>
    ac_rfl
    exact List.take_length
end Gs
end
section
set_option autoImplicit false
set_option linter.all false
set_option maxRecDepth 100000
set_option maxHeartbeats 1000000
/-! Ps1: facts, ascending lists, worlds. -/
namespace Gs
open PySem Mp Mp.Ww Gd
local macro_rules | `(tactic| ac_rfl) => `(tactic| ((repeat ((conv => whnf); first | refine XE.st _ ?_ | refine XD.st _ ?_ | refine XV.st _ ?_ | refine XA.st _ ?_ | refine XO.st _ ?_ | refine XI.st _ ?_ | refine XS.st _ ?_ | refine XSs.st _ ?_ | refine Bra.t rfl ?_ | refine Bra.f rfl ?_ | refine Opt.of rfl ?_ | refine Opt.of atI_z ?_ | refine Opt.of atI_o ?_ | refine Opt.glb (by with_reducible assumption) ?_ | refine cm_int ?_ | refine cm_is ?_ | refine cm_eq ?_ | refine cm_ne ?_ | refine cm_gen ?_ | refine look_of (cfg_gen (by assumption)) ?_ | refine look_of (cfg_loc rfl) ?_ | refine And.intro (by first | with_reducible assumption | exact rfl | exact Nat.le_of_ble_eq_true rfl | exact ⟨rfl, Nat.le_of_ble_eq_true rfl⟩ | decide | omega | (have hsz := szl; omega)) ?_ | rw [cfg_set (by assumption)] | rw [cfg_setloc] | rw [cfg_push])); (try (conv => whnf))))
variable {Γ : Nat → List Val → M Val} {gl : List PyData} {X : XT}
mutual
/-- all that is in it fits -/
def fitD : PyData → Bool
  | .str x => decide (x.length ≤ sizeLine)
  | .list xs => decide (xs.length ≤ sizeLine) && fitDs xs
  | .tuple xs => decide (xs.length ≤ sizeLine) && fitDs xs
  | _ => true
def fitDs : List PyData → Bool
  | [] => true
  | x :: xs => fitD x && fitDs xs
end
theorem fitDs_all : ∀ {xs : List PyData}, fitDs xs = true ↔ ∀ x ∈ xs, fitD x = true
  | [] => by simp [fitDs]
  | x :: xs => by rw [fitDs, Bool.and_eq_true, fitDs_all]; simp
theorem fit_tuple {xs : List PyData} (h : fitD (.tuple xs) = true) : xs.length ≤ sizeLine ∧ ∀ x ∈ xs, fitD x = true := by
  rw [fitD, Bool.and_eq_true, decide_eq_true_eq, fitDs_all] at h
  exact h
theorem fit_list {xs : List PyData} (h : fitD (.list xs) = true) : xs.length ≤ sizeLine ∧ ∀ x ∈ xs, fitD x = true := by
  rw [fitD, Bool.and_eq_true, decide_eq_true_eq, fitDs_all] at h
  exact h
theorem fit_len {v : PyData} (h : fitD v = true) : lenOk v := by
  rintro x rfl
  rw [fitD, decide_eq_true_eq] at h
  exact h
def factB (v : PyData) : Bool := match v with
  | .tuple (x :: xs) => decide (xs.length < 4) && ((spelledD SMALL x || spelledD CAPITAL x) && xs.all (spelledD SMALL))
  | _ => false
def FactS (F : List Val → M Val) : Prop := ∀ (v : PyData) (S : Store), fitD v = true → F [.d v] S = .ok (.d (.bool (factB v))) S
theorem all_filter (b : PyData → Bool) (xs : List PyData) : (xs.filter fun x => !b x).isEmpty = xs.all b := by
  have := isEmpty_filter (fun x => !b x) id xs
  rw [List.map_id] at this
  rw [this]
  simp
theorem fact_ok {kn kc : Nat} (name : NameS (Γ kn)) (cap : CapS (Γ kc)) : FactS ((A_is_fact kn kc).run Γ gl) := by
  intro v S hv
  refine Wp.eq (Wp.run rfl ?_)
  cases v with
  | tuple xs =>
    obtain ⟨hl, hx⟩ := fit_tuple hv
    ac_rfl
    cases xs with
    | nil =>
      ac_rfl
      exact List.take_length
    | cons x xs =>
      refine Bra.t (by simp; omega) ?_
      ac_rfl
      by_cases h4 : xs.length < 4
      · refine Bra.f (by simp; omega) ?_
        ac_rfl
        have hn := fit_len (hx x (List.mem_cons_self ..))
        refine Wp.of (name x S hn) ?_
        ac_rfl
        have fin : (spelledD SMALL x || spelledD CAPITAL x) = true → XSs Γ gl nx (match (A_is_fact kn kc).body with | .cons _ (.cons _ b) => b | _ => .nil) [some (.d (.tuple (x :: xs))), none] (endX S false fun b T => b = Val.d (PyData.bool (factB (.tuple (x :: xs)))) ∧ T = S) S := by
          intro hh
          ac_rfl
          rw [cut_tail]
          refine Wp.lc_filter (fun y => !spelledD SMALL y) here_none (fun y hy => ?_) ?_
          · refine Wp.lcB ?_
            ac_rfl
            refine Wp.of (name y S (fit_len (hx y (List.mem_cons_of_mem _ hy)))) ?_
            ac_rfl
            refine Bra.both (fun e => ?_) fun e => ?_
            · ac_rfl
              exact ⟨by rw [if_pos e], rfl⟩
            · ac_rfl
              exact ⟨by rw [e]; rfl, rfl⟩
          · have := List.length_filter_le (fun y => !spelledD SMALL y) xs
            refine ⟨by simp at hl; omega, ?_⟩
            ac_rfl
            refine eq_nil ?_
            ac_rfl
            refine bool_end ?_
            show _ = (decide (xs.length < 4) && ((spelledD SMALL x || spelledD CAPITAL x) && xs.all (spelledD SMALL)))
            rw [all_filter, hh, decide_eq_true h4]
            rfl
        refine Bra.both (fun e1 => ?_) fun e1 => ?_
        · rw [Bool.not_eq_true'] at e1
          ac_rfl
          refine Wp.of (cap x S hn) ?_
          ac_rfl
          refine Bra.both (fun e2 => ?_) fun e2 => ?_
          · rw [Bool.not_eq_true'] at e2
            ac_rfl
            refine bool_end ?_
            show _ = (decide (xs.length < 4) && ((spelledD SMALL x || spelledD CAPITAL x) && xs.all (spelledD SMALL)))
            rw [e1, e2]
            simp
          · rw [Bool.not_eq_false'] at e2
            refine Bra.f rfl (XSs.nil ?_)
            exact fin (by rw [e2]; simp)
        · rw [Bool.not_eq_false'] at e1
          refine Bra.f rfl (XSs.nil ?_)
          exact fin (by rw [e1]; rfl)
      · refine Bra.t (by simp; omega) ?_
        ac_rfl
        refine bool_end ?_
        show _ = (decide (xs.length < 4) && _)
        rw [decide_eq_false h4]
        rfl
  | _ =>
    ac_rfl
    exact List.take_length
def DueNameS (F : List Val → M Val) : Prop := NameS F
theorem duename_ok {k : Nat} (word : DueWordS (Γ k)) : DueNameS ((A__law_due_name k).run Γ gl) := by
  intro v S hv
  refine Wp.eq (Wp.run rfl ?_)
  ac_rfl
  refine Wp.of (word v SMALL S hv) ?_
  ac_rfl
  exact List.take_length
theorem duefact_ok {kn kw : Nat} (name : DueNameS (Γ kn)) (word : DueWordS (Γ kw)) : FactS ((A__law_due_fact kn kw).run Γ gl) := by
  intro v S hv
  refine Wp.eq (Wp.run rfl ?_)
  cases v with
  | tuple xs =>
    obtain ⟨hl, hx⟩ := fit_tuple hv
    ac_rfl
    cases xs with
    | nil =>
      ac_rfl
      exact List.take_length
    | cons x xs =>
      refine Bra.f (by simp; omega) ?_
      ac_rfl
      by_cases h4 : xs.length < 4
      · refine Bra.f (by simp; omega) ?_
        ac_rfl
        have hn := fit_len (hx x (List.mem_cons_self ..))
        refine Wp.of (name x S hn) ?_
        ac_rfl
        have fin : (spelledD SMALL x || spelledD CAPITAL x) = true → XSs Γ gl nx (match (A__law_due_fact kn kw).body with | .cons _ (.cons _ b) => b | _ => .nil) [some (.d (.tuple (x :: xs))), none] (endX S false fun b T => b = Val.d (PyData.bool (factB (.tuple (x :: xs)))) ∧ T = S) S := by
          intro hh
          ac_rfl
          rw [cut_tail]
          refine Wp.lc_filter (fun y => !spelledD SMALL y) here_none (fun y hy => ?_) ?_
          · refine Wp.lcB ?_
            ac_rfl
            refine Wp.of (name y S (fit_len (hx y (List.mem_cons_of_mem _ hy)))) ?_
            ac_rfl
            refine Bra.both (fun e => ?_) fun e => ?_
            · ac_rfl
              exact ⟨by rw [if_pos e], rfl⟩
            · ac_rfl
              exact ⟨by rw [e]; rfl, rfl⟩
          · have := List.length_filter_le (fun y => !spelledD SMALL y) xs
            refine ⟨by simp at hl; omega, ?_⟩
            ac_rfl
            refine eq_nil ?_
            ac_rfl
            refine bool_end ?_
            show _ = (decide (xs.length < 4) && ((spelledD SMALL x || spelledD CAPITAL x) && xs.all (spelledD SMALL)))
            rw [all_filter, hh, decide_eq_true h4]
            rfl
        refine Bra.both (fun e1 => ?_) fun e1 => ?_
        · rw [Bool.not_eq_true'] at e1
          ac_rfl
          refine Wp.of (word x CAPITAL S hn) ?_
          ac_rfl
          refine Bra.both (fun e2 => ?_) fun e2 => ?_
          · rw [Bool.not_eq_true'] at e2
            ac_rfl
            refine bool_end ?_
            show _ = (decide (xs.length < 4) && ((spelledD SMALL x || spelledD CAPITAL x) && xs.all (spelledD SMALL)))
            rw [e1, e2]
            simp
          · rw [Bool.not_eq_false'] at e2
            refine Bra.f rfl (XSs.nil ?_)
            exact fin (by rw [e2]; simp)
        · rw [Bool.not_eq_false'] at e1
          refine Bra.f rfl (XSs.nil ?_)
          exact fin (by rw [e1]; rfl)
      · refine Bra.t (by simp; omega) ?_
        ac_rfl
        refine bool_end ?_
        show _ = (decide (xs.length < 4) && _)
        rw [decide_eq_false h4]
        rfl
  | _ =>
    ac_rfl
    exact List.take_length
/-! ### ascending -/
theorem pu_ge {x y : PyData} {b : Bool} {K : Bool → Prop} (h : ∀ S, ltD x y S = .ok b S) (k : K (!b)) : PuB (cmpD .ge x y) K := by
  refine PuB.of (fun S => ?_) k
  show bnd (ltD x y) (fun r => ret (!r)) S = _
  unfold bnd
  rw [h S]
  rfl
theorem pu_lt {x y : PyData} {b : Bool} {K : Bool → Prop} (h : ∀ S, ltD x y S = .ok b S) (k : K b) : PuB (cmpD .lt x y) K := PuB.of h k
/-- every item before the next one -/
def upD (xs : List PyData) : Bool := (List.range (xs.length - 1)).all fun i => W.dataLt (xs.getD i .none) (xs.getD (i + 1) .none)
def Comparable (xs : List PyData) : Prop := ∀ x ∈ xs, ∀ y ∈ xs, ∀ S, ltD x y S = .ok (W.dataLt x y) S
def AscS (F : List Val → M Val) : Prop := ∀ (xs : List PyData) (S : Store), xs.length ≤ sizeLine → Comparable xs → F [.d (.list xs)] S = .ok (.d (.bool (upD xs))) S
theorem filterMap_empty {n : Nat} (b : Nat → Bool) (f : Nat → PyData) : ((List.range n).filterMap fun i => if b i = true then some (f i) else none).isEmpty = (List.range n).all fun i => !b i := by
  induction List.range n with
  | nil => rfl
  | cons a l ih =>
    rw [List.filterMap_cons, List.all_cons]
    cases h : b a with
    | true => rfl
    | false => rw [← ih]; rfl
theorem getD_mem {xs : List PyData} {i : Nat} (h : i < xs.length) : xs.getD i .none ∈ xs ∧ xs[i]? = some (xs.getD i .none) := by
  rw [List.getD_eq_getElem?_getD, List.getElem?_eq_getElem h]
  exact ⟨List.getElem_mem h, rfl⟩
theorem up_eq (xs : List PyData) : ((List.range ((xs.length : Int) - 1).toNat).filterMap fun i => (fun j : Int => if (!W.dataLt (xs.getD (j - 1).toNat .none) (xs.getD j.toNat .none)) = true then some (PyData.int j) else none) (1 + (i : Nat))).isEmpty = upD xs := by
  have e : (fun i : Nat => (fun j : Int => if (!W.dataLt (xs.getD (j - 1).toNat .none) (xs.getD j.toNat .none)) = true then some (PyData.int j) else none) (1 + (i : Nat))) = fun i : Nat => if (!W.dataLt (xs.getD i .none) (xs.getD (i + 1) .none)) = true then some (PyData.int (1 + (i : Nat))) else none := by
    funext i
    show (if (!W.dataLt (xs.getD (1 + (i : Int) - 1).toNat .none) (xs.getD (1 + (i : Int)).toNat .none)) = true then _ else _) = _
    rw [show (1 + (i : Int) - 1).toNat = i by omega, show (1 + (i : Int)).toNat = i + 1 by omega]
  rw [e, filterMap_empty, show ((xs.length : Int) - 1).toNat = xs.length - 1 by omega]
  unfold upD
  simp
theorem ascends_ok : AscS (A_ascends.run Γ gl) := by
  intro xs S hl hc
  have hsz := szl
  refine Wp.eq (Wp.run rfl ?_)
  ac_rfl
  refine Wp.lcr (fun j => if (!W.dataLt (xs.getD (j - 1).toNat .none) (xs.getD j.toNat .none)) = true then some (.int j) else none) here_none (fun i hi => ?_) ?_
  · have h1 := getD_mem (xs := xs) (i := i) (by omega)
    have h2 := getD_mem (xs := xs) (i := i + 1) (by omega)
    have a1 : L2.atI xs (1 + (i : Int) - 1) = some (xs.getD i .none) := by rw [atI_int (by omega), ← h1.2]; congr 1; omega
    have a2 : L2.atI xs (1 + (i : Int)) = some (xs.getD (i + 1) .none) := by rw [atI_int (by omega), ← h2.2]; congr 1; omega
    refine Wp.lcB ?_
    ac_rfl
    refine Opt.of a1 ?_
    ac_rfl
    refine Opt.of a2 ?_
    ac_rfl
    refine pu_ge (hc _ h1.1 _ h2.1) ?_
    ac_rfl
    rw [show (1 + (i : Int) - 1).toNat = i by omega, show (1 + (i : Int)).toNat = i + 1 by omega]
    refine Bra.both (fun e => ?_) fun e => ?_
    · ac_rfl
      exact ⟨by rw [if_pos e], rfl⟩
    · ac_rfl
      exact ⟨by rw [e]; rfl, rfl⟩
  · refine ⟨Nat.le_trans (List.length_filterMap_le _ _) (by rw [List.length_range]; omega), ?_⟩
    ac_rfl
    refine eq_nil ?_
    ac_rfl
    exact bool_end (up_eq xs)
theorem lawup_ok : AscS (A__law_up.run Γ gl) := by
  intro xs S hl hc
  have hsz := szl
  refine Wp.eq (Wp.run rfl ?_)
  ac_rfl
  refine Wp.lcr (fun j => if (!W.dataLt (xs.getD (j - 1).toNat .none) (xs.getD j.toNat .none)) = true then some (.int j) else none) here_none (fun i hi => ?_) ?_
  · have h1 := getD_mem (xs := xs) (i := i) (by omega)
    have h2 := getD_mem (xs := xs) (i := i + 1) (by omega)
    have a1 : L2.atI xs (1 + (i : Int) - 1) = some (xs.getD i .none) := by rw [atI_int (by omega), ← h1.2]; congr 1; omega
    have a2 : L2.atI xs (1 + (i : Int)) = some (xs.getD (i + 1) .none) := by rw [atI_int (by omega), ← h2.2]; congr 1; omega
    refine Wp.lcB ?_
    ac_rfl
    refine Opt.of a1 ?_
    ac_rfl
    refine Opt.of a2 ?_
    ac_rfl
    refine pu_lt (hc _ h1.1 _ h2.1) ?_
    ac_rfl
    rw [show (1 + (i : Int) - 1).toNat = i by omega, show (1 + (i : Int)).toNat = i + 1 by omega]
    refine Bra.both (fun e => ?_) fun e => ?_
    · ac_rfl
      exact ⟨by rw [if_pos e], rfl⟩
    · ac_rfl
      exact ⟨by rw [e]; rfl, rfl⟩
  · refine ⟨Nat.le_trans (List.length_filterMap_le _ _) (by rw [List.length_range]; omega), ?_⟩
    ac_rfl
    refine eq_nil ?_
    ac_rfl
    exact bool_end (up_eq xs)
theorem comp_strs (ts : List Str) : Comparable (sD ts) := by
  intro x hx y hy S
  obtain ⟨a, _, rfl⟩ := List.mem_map.mp hx
  obtain ⟨b, _, rfl⟩ := List.mem_map.mp hy
  rw [W.dataLt_str]
  rfl
theorem comp_facts {fs : List (List Str)} (h : ∀ f ∈ fs, ∀ t ∈ f, Lay t) : Comparable (fs.map factD) := by
  intro x hx y hy S
  obtain ⟨a, ha, rfl⟩ := List.mem_map.mp hx
  obtain ⟨b, hb, rfl⟩ := List.mem_map.mp hy
  show bnd (guard (W.alike (factD a) (factD b) && decide ((factD a).depth ≤ 60) && noDict (factD a) && noDict (factD b))) (fun _ => ret (W.dataLt (factD a) (factD b))) S = _
  rw [alike_fact, noDict_fact (h a ha), noDict_fact (h b hb), decide_eq_true (by have := depth_fact a; omega)]
  rfl
/-! ### told facts, things, worlds -/
theorem names_strs : ∀ {xs : List PyData} {f : Str}, xs.all (spelledD f) = true → ∃ ts : List Str, xs = sD ts ∧ ∀ t ∈ ts, spelled f t = true
  | [], f, _ => ⟨[], rfl, by simp⟩
  | x :: xs, f, h => by
    rw [List.all_cons, Bool.and_eq_true] at h
    obtain ⟨ts, rfl, ht⟩ := names_strs h.2
    cases x with
    | str x =>
      refine ⟨x :: ts, rfl, fun t hm => ?_⟩
      rcases List.mem_cons.mp hm with rfl | hm
      · exact h.1
      · exact ht t hm
    | _ => exact absurd h.1 (by simp [spelledD])
theorem fact_strs {v : PyData} (h : factB v = true) : ∃ w r, v = factD (w :: r) ∧ (spelled SMALL w = true ∨ spelled CAPITAL w = true) ∧ ∀ t ∈ r, nameB t = true := by
  cases v with
  | tuple xs =>
    cases xs with
    | nil => cases h
    | cons x xs =>
      have h : (decide (xs.length < 4) && ((spelledD SMALL x || spelledD CAPITAL x) && xs.all (spelledD SMALL))) = true := h
      rw [Bool.and_eq_true, Bool.and_eq_true, Bool.or_eq_true] at h
      obtain ⟨ts, rfl, ht⟩ := names_strs h.2.2
      cases x with
      | str w => exact ⟨w, ts, rfl, h.2.1, ht⟩
      | _ => simp [spelledD] at h
  | _ => cases h
theorem any_strs (ts : List Str) (a : Str) : ((sD ts).any fun z => PyData.eqv z (.str a)) = decide (a ∈ ts) := by
  rw [List.any_map]
  induction ts with
  | nil => rfl
  | cons t ts ih =>
    rw [List.any_cons, ih]
    show (PyData.eqv (.str t) (.str a) || _) = _
    rw [eqv_str]
    by_cases h : t = a
    · simp [h]
    · have h' : ¬ a = t := fun e => h e.symm
      simp [h, h']
theorem in_strs {ts : List Str} {a : Str} {K : Bool → Prop} (ha : Lay a) (ht : ∀ t ∈ ts, Lay t) (k : K (decide (a ∈ ts))) : PuB (cmpD .in (.str a) (.list (sD ts))) K := by
  refine PuB.of (fun S => ?_) k
  have e := any_strs ts a
  show bnd (guard (SeqAt.shaped (.str a) && SeqAt.shaped (.list (sD ts)))) (fun _ => ret ((sD ts).any fun z => PyData.eqv z (.str a))) S = _
  rw [shaped_str ha, shaped_strs ht, e]
  rfl
theorem notin_strs {ts : List Str} {a : Str} {K : Bool → Prop} (ha : Lay a) (ht : ∀ t ∈ ts, Lay t) (k : K (!decide (a ∈ ts))) : PuB (cmpD .notin (.str a) (.list (sD ts))) K := by
  have q := in_strs (K := fun b => K (!b)) ha ht k
  rw [PuB_eq] at q ⊢
  intro S
  obtain ⟨b, e, kb⟩ := q S
  refine ⟨!b, ?_, kb⟩
  show bnd (cmpD .in (.str a) (.list (sD ts))) (fun r => ret (!r)) S = _
  unfold bnd
  rw [e]
  rfl
/-- a fact with a told word over these things -/
def toldB (ts : List Str) (v : PyData) : Bool := match v with
  | .tuple (x :: xs) => factB v && (spelledD SMALL x && xs.all fun y => decide (unStr y ∈ ts))
  | _ => false
def ToldS (F : List Val → M Val) : Prop := ∀ (ts : List Str) (v : PyData) (S : Store), (∀ t ∈ ts, nameB t = true) → fitD v = true → F [.d (.list (sD ts)), .d v] S = .ok (.d (.bool (toldB ts v))) S
theorem told_fact {ts : List Str} {v : PyData} (h : toldB ts v = true) : factB v = true := by
  unfold toldB at h
  split at h
  · rw [Bool.and_eq_true] at h
    exact h.1
  · cases h
theorem told_ok {kf kn : Nat} (fact : FactS (Γ kf)) (name : NameS (Γ kn)) : ToldS ((A_is_told kf kn).run Γ gl) := by
  intro ts v S hts hv
  refine Wp.eq (Wp.run rfl ?_)
  ac_rfl
  refine Wp.of (fact v S hv) ?_
  ac_rfl
  refine Bra.both (fun e => ?_) fun e => ?_
  · ac_rfl
    refine bool_end ?_
    cases q : toldB ts v with
    | false => rfl
    | true =>
      rw [told_fact q] at e
      cases e
  · rw [Bool.not_eq_false'] at e
    obtain ⟨w, r, rfl, hw, hr⟩ := fact_strs e
    have hv' := fit_tuple hv
    ac_rfl
    refine Wp.of (name (.str w) S (fit_len (hv'.2 _ (List.mem_cons_self ..)))) ?_
    ac_rfl
    refine Bra.both (fun e1 => ?_) fun e1 => ?_
    · ac_rfl
      refine bool_end ?_
      show _ = (factB _ && (spelledD SMALL (.str w) && _))
      rw [Bool.not_eq_true'] at e1
      rw [e1]
      simp
    · rw [Bool.not_eq_false'] at e1
      ac_rfl
      rw [show cutD (sD (w :: r)) (some 1) none = sD r from cut_tail]
      refine lc_filterH (as := r) PyData.str (fun t => !decide (t ∈ ts)) here_none (fun t ht => ?_) ?_
      · refine Wp.lcB ?_
        ac_rfl
        refine notin_strs (name_lay (hr t ht)) (fun u hu => name_lay (hts u hu)) ?_
        ac_rfl
        refine Bra.both (fun e => ?_) fun e => ?_
        · ac_rfl
          exact ⟨by rw [if_pos e], rfl⟩
        · ac_rfl
          exact ⟨by rw [e]; rfl, rfl⟩
      · have hl := hv'.1
        have := List.length_filter_le (fun t => !decide (t ∈ ts)) r
        refine ⟨by simp at hl; rw [List.length_map]; omega, ?_⟩
        ac_rfl
        refine eq_nil ?_
        ac_rfl
        refine bool_end ?_
        show _ = (factB _ && (spelledD SMALL (.str w) && (sD r).all fun y => decide (unStr y ∈ ts)))
        rw [e1, isEmpty_filter, List.all_map]
        have e' : factB (factD (w :: r)) = true := e
        show _ = (factB (factD (w :: r)) && _)
        rw [e']
        simp
        rfl
end Gs
end
section
set_option autoImplicit false
set_option linter.all false
set_option maxRecDepth 100000
set_option maxHeartbeats 1000000
/-! Ps2: worlds. -/
namespace Gs
open PySem Mp Mp.Ww Gd
local macro_rules | `(tactic| ac_rfl) => `(tactic| ((repeat ((conv => whnf); first | refine XE.st _ ?_ | refine XD.st _ ?_ | refine XV.st _ ?_ | refine XA.st _ ?_ | refine XO.st _ ?_ | refine XI.st _ ?_ | refine XS.st _ ?_ | refine XSs.st _ ?_ | refine Bra.t rfl ?_ | refine Bra.f rfl ?_ | refine Opt.of rfl ?_ | refine Opt.of atI_z ?_ | refine Opt.of atI_o ?_ | refine Opt.glb (by with_reducible assumption) ?_ | refine cm_int ?_ | refine cm_is ?_ | refine cm_eq ?_ | refine cm_ne ?_ | refine cm_gen ?_ | refine look_of (cfg_gen (by assumption)) ?_ | refine look_of (cfg_loc rfl) ?_ | refine And.intro (by first | with_reducible assumption | exact rfl | exact Nat.le_of_ble_eq_true rfl | exact ⟨rfl, Nat.le_of_ble_eq_true rfl⟩ | decide | omega | (have hsz := szl; omega)) ?_ | rw [cfg_set (by assumption)] | rw [cfg_setloc] | rw [cfg_push])); (try (conv => whnf))))
variable {Γ : Nat → List Val → M Val} {gl : List PyData} {X : XT}
def thingsB (v : PyData) : Bool := match v with
  | .list xs => decide (1 ≤ xs.length ∧ xs.length ≤ 8) && (xs.all (spelledD SMALL) && upD xs)
  | _ => false
def AreThingsS (F : List Val → M Val) : Prop := ∀ (v : PyData) (S : Store), fitD v = true → F [.d v] S = .ok (.d (.bool (thingsB v))) S
theorem things_strs {xs : List PyData} (h : thingsB (.list xs) = true) : ∃ ts : List Str, xs = sD ts ∧ (1 ≤ ts.length ∧ ts.length ≤ 8) ∧ (∀ t ∈ ts, nameB t = true) ∧ upD (sD ts) = true := by
  have h : (decide (1 ≤ xs.length ∧ xs.length ≤ 8) && (xs.all (spelledD SMALL) && upD xs)) = true := h
  rw [Bool.and_eq_true, Bool.and_eq_true, decide_eq_true_eq] at h
  obtain ⟨ts, rfl, ht⟩ := names_strs h.2.1
  rw [List.length_map] at h
  exact ⟨ts, rfl, h.1, ht, h.2.2⟩
theorem arethings_ok {ka kn : Nat} (asc : AscS (Γ ka)) (name : NameS (Γ kn)) : AreThingsS ((A_are_things ka kn).run Γ gl) := by
  intro v S hv
  refine Wp.eq (Wp.run rfl ?_)
  cases v with
  | list xs =>
    obtain ⟨hl, hx⟩ := fit_list hv
    have no : ∀ {S : Store}, ¬ (1 ≤ xs.length ∧ xs.length ≤ 8) → Val.d (.bool false) = Val.d (.bool (thingsB (.list xs))) ∧ List.take (List.length S) S = S := fun h => bool_end (by
      show _ = (decide (1 ≤ xs.length ∧ xs.length ≤ 8) && _)
      rw [decide_eq_false h]
      rfl)
    ac_rfl
    by_cases h1 : 1 ≤ xs.length
    · refine Bra.t (by simp; omega) ?_
      ac_rfl
      by_cases h8 : xs.length ≤ 8
      · refine Bra.f (by simp; omega) ?_
        ac_rfl
        refine Wp.lc_filter (fun y => !spelledD SMALL y) here_none (fun y hy => ?_) ?_
        · refine Wp.lcB ?_
          ac_rfl
          refine Wp.of (name y S (fit_len (hx y hy))) ?_
          ac_rfl
          refine Bra.both (fun e => ?_) fun e => ?_
          · ac_rfl
            exact ⟨by rw [if_pos e], rfl⟩
          · ac_rfl
            exact ⟨by rw [e]; rfl, rfl⟩
        · have := List.length_filter_le (fun y => !spelledD SMALL y) xs
          refine ⟨by omega, ?_⟩
          ac_rfl
          refine eq_nil ?_
          ac_rfl
          rw [all_filter]
          refine Bra.both (fun e => ?_) fun e => ?_
          · ac_rfl
            refine bool_end ?_
            rw [Bool.not_eq_true'] at e
            show _ = (decide (1 ≤ xs.length ∧ xs.length ≤ 8) && (xs.all (spelledD SMALL) && _))
            rw [e]
            simp
          · rw [Bool.not_eq_false'] at e
            ac_rfl
            obtain ⟨ts, rfl, ht⟩ := names_strs e
            refine Wp.of (asc (sD ts) S hl (comp_strs ts)) ?_
            ac_rfl
            refine bool_end ?_
            show _ = (decide (1 ≤ (sD ts).length ∧ (sD ts).length ≤ 8) && (_ && _))
            rw [e, decide_eq_true ⟨h1, h8⟩]
            rfl
      · refine Bra.t (by simp; omega) ?_
        ac_rfl
        exact no (by omega)
    · refine Bra.f (by simp; omega) ?_
      ac_rfl
      exact no (by omega)
  | _ =>
    ac_rfl
    exact List.take_length
/-- a world -/
def worldB (v : PyData) : Bool := match v with
  | .tuple [.list xs, .list fs] => thingsB (.list xs) && (fs.all (toldB (xs.map unStr)) && upD fs)
  | _ => false
def WorldPS (F : List Val → M Val) : Prop := ∀ (v : PyData) (S : Store), fitD v = true → F [.d v] S = .ok (.d (.bool (worldB v))) S
theorem unStr_strs (ts : List Str) : (sD ts).map unStr = ts := by
  rw [List.map_map]
  exact List.map_id ts
theorem told_facts : ∀ {fs : List PyData} {ts : List Str}, fs.all (toldB ts) = true → ∃ gs : List (List Str), fs = gs.map factD ∧ ∀ f ∈ gs, ∀ t ∈ f, Lay t
  | [], ts, _ => ⟨[], rfl, by simp⟩
  | f :: fs, ts, h => by
    rw [List.all_cons, Bool.and_eq_true] at h
    obtain ⟨gs, rfl, hg⟩ := told_facts h.2
    obtain ⟨w, r, rfl, hw, hr⟩ := fact_strs (told_fact h.1)
    refine ⟨(w :: r) :: gs, rfl, fun f hf t ht => ?_⟩
    rcases List.mem_cons.mp hf with rfl | hf
    · rcases List.mem_cons.mp ht with rfl | ht
      · rcases hw with h | h
        · exact name_lay h
        · exact cap_lay h
      · exact name_lay (hr t ht)
    · exact hg f hf t ht
theorem world_no1 {xs : List PyData} (h : xs.length ≠ 2) : worldB (.tuple xs) = false := by
  cases q : worldB (.tuple xs) with
  | false => rfl
  | true =>
    unfold worldB at q
    split at q
    · rename_i e
      cases e
      exact absurd rfl h
    · cases q
theorem world_no2 {x y : PyData} (h : thingsB x = false) : worldB (.tuple [x, y]) = false := by
  cases x with
  | list xs =>
    cases y with
    | list ys =>
      show (thingsB (.list xs) && _) = false
      rw [h]
      rfl
    | _ => rfl
  | _ => rfl
theorem isworld_ok {kt ka kh : Nat} (told : ToldS (Γ kt)) (asc : AscS (Γ ka)) (things : AreThingsS (Γ kh)) : WorldPS ((A_is_world kt ka kh).run Γ gl) := by
  intro v S hv
  refine Wp.eq (Wp.run rfl ?_)
  cases v with
  | tuple xs =>
    obtain ⟨hl, hx⟩ := fit_tuple hv
    ac_rfl
    by_cases h2 : xs.length = 2
    · match xs, h2 with
      | [x, y], _ =>
        ac_rfl
        refine Wp.of (things x S (hx x (by simp))) ?_
        ac_rfl
        refine Bra.both (fun e => ?_) fun e => ?_
        · rw [Bool.not_eq_true'] at e
          ac_rfl
          exact bool_end (world_no2 e).symm
        · rw [Bool.not_eq_false'] at e
          ac_rfl
          cases x with
          | list xs =>
            obtain ⟨ts, rfl, htl, htn, htu⟩ := things_strs e
            cases y with
            | list fs =>
              obtain ⟨hfl, hfx⟩ := fit_list (hx (.list fs) (by simp))
              ac_rfl
              refine Wp.lc_filter (fun f => !toldB ts f) here_none (fun f hf => ?_) ?_
              · refine Wp.lcB ?_
                ac_rfl
                refine Wp.of (told ts f S htn (hfx f hf)) ?_
                ac_rfl
                refine Bra.both (fun e => ?_) fun e => ?_
                · ac_rfl
                  exact ⟨by rw [if_pos e], rfl⟩
                · ac_rfl
                  exact ⟨by rw [e]; rfl, rfl⟩
              · have := List.length_filter_le (fun f => !toldB ts f) fs
                refine ⟨by omega, ?_⟩
                ac_rfl
                refine eq_nil ?_
                ac_rfl
                rw [all_filter]
                have ew : worldB (.tuple [.list (sD ts), .list fs]) = (fs.all (toldB ts) && upD fs) := by
                  show (thingsB (.list (sD ts)) && (fs.all (toldB ((sD ts).map unStr)) && upD fs)) = _
                  rw [e, unStr_strs]
                  rfl
                refine Bra.both (fun e1 => ?_) fun e1 => ?_
                · ac_rfl
                  obtain ⟨gs, rfl, hgs⟩ := told_facts e1
                  refine Wp.of (asc _ S hfl (comp_facts hgs)) ?_
                  ac_rfl
                  refine Bra.both (fun e2 => ?_) fun e2 => ?_
                  · ac_rfl
                    refine bool_end ?_
                    rw [ew, e1, e2]
                    rfl
                  · ac_rfl
                    refine bool_end ?_
                    rw [ew, e1, e2]
                    rfl
                · ac_rfl
                  refine bool_end ?_
                  rw [ew, e1]
                  rfl
            | _ =>
              ac_rfl
              exact List.take_length
          | _ => cases e
    · refine Bra.t (by simp; omega) ?_
      ac_rfl
      exact bool_end (world_no1 h2).symm
  | _ =>
    ac_rfl
    exact List.take_length
theorem dueworld_ok {ku kf kn : Nat} (up : AscS (Γ ku)) (fact : FactS (Γ kf)) (name : DueNameS (Γ kn)) : WorldPS ((A__law_due_world ku kf kn).run Γ gl) := by
  intro v S hv
  refine Wp.eq (Wp.run rfl ?_)
  cases v with
  | tuple xs =>
    obtain ⟨hl, hx⟩ := fit_tuple hv
    ac_rfl
    by_cases h2 : xs.length = 2
    · match xs, h2 with
      | [x, y], _ =>
        cases x with
        | list xs =>
          cases y with
          | list fs =>
            have no : thingsB (.list xs) = false → Val.d (.bool false) = Val.d (.bool (worldB (.tuple [.list xs, .list fs]))) ∧ List.take (List.length S) S = S := fun h => bool_end (world_no2 h).symm
            obtain ⟨hxl, hxx⟩ := fit_list (hx (.list xs) (by simp))
            obtain ⟨hfl, hfx⟩ := fit_list (hx (.list fs) (by simp))
            ac_rfl
            by_cases h1 : 1 ≤ xs.length
            · refine Bra.f (by simp; omega) ?_
              ac_rfl
              by_cases h8 : xs.length ≤ 8
              · refine Bra.f (by simp; omega) ?_
                ac_rfl
                refine Wp.lc_filter (fun y => !spelledD SMALL y) here_none (fun y hy => ?_) ?_
                · refine Wp.lcB ?_
                  ac_rfl
                  refine Wp.of (name y S (fit_len (hxx y hy))) ?_
                  ac_rfl
                  refine Bra.both (fun e => ?_) fun e => ?_
                  · ac_rfl
                    exact ⟨by rw [if_pos e], rfl⟩
                  · ac_rfl
                    exact ⟨by rw [e]; rfl, rfl⟩
                · have := List.length_filter_le (fun y => !spelledD SMALL y) xs
                  refine ⟨by omega, ?_⟩
                  ac_rfl
                  refine eq_nil ?_
                  ac_rfl
                  rw [all_filter]
                  refine Bra.both (fun e => ?_) fun e => ?_
                  · rw [Bool.not_eq_true'] at e
                    ac_rfl
                    refine no ?_
                    show (decide (1 ≤ xs.length ∧ xs.length ≤ 8) && (xs.all (spelledD SMALL) && _)) = false
                    rw [e]
                    simp
                  · rw [Bool.not_eq_false'] at e
                    ac_rfl
                    obtain ⟨ts, rfl, htn⟩ := names_strs e
                    refine Wp.of (up (sD ts) S hxl (comp_strs ts)) ?_
                    ac_rfl
                    have eT : thingsB (.list (sD ts)) = upD (sD ts) := by
                      show (decide (1 ≤ (sD ts).length ∧ (sD ts).length ≤ 8) && ((sD ts).all (spelledD SMALL) && _)) = _
                      rw [e, decide_eq_true ⟨h1, h8⟩]
                      rfl
                    refine Bra.both (fun e2 => ?_) fun e2 => ?_
                    · rw [Bool.not_eq_true'] at e2
                      ac_rfl
                      exact no (by rw [eT, e2])
                    · rw [Bool.not_eq_false'] at e2
                      ac_rfl
                      refine Wp.lc_filter (fun f => !toldB ts f) here_none (fun f hf => ?_) ?_
                      · refine Wp.lcB ?_
                        ac_rfl
                        refine Wp.of (fact f S (hfx f hf)) ?_
                        ac_rfl
                        refine Bra.both (fun e => ?_) fun e => ?_
                        · rw [Bool.not_eq_true'] at e
                          have et : toldB ts f = false := by
                            cases q : toldB ts f with
                            | false => rfl
                            | true => rw [told_fact q] at e; cases e
                          ac_rfl
                          exact ⟨by rw [et]; rfl, rfl⟩
                        · rw [Bool.not_eq_false'] at e
                          obtain ⟨w, r, rfl, hw, hr⟩ := fact_strs e
                          have hv' := fit_tuple (hfx _ hf)
                          have et : toldB ts (factD (w :: r)) = (spelledD SMALL (.str w) && r.all fun t => decide (t ∈ ts)) := by
                            show (factB (factD (w :: r)) && (spelledD SMALL (.str w) && (sD r).all fun y => decide (unStr y ∈ ts))) = _
                            rw [e, List.all_map]
                            rfl
                          ac_rfl
                          refine Wp.of (name (.str w) S (fit_len (hv'.2 _ (List.mem_cons_self ..)))) ?_
                          ac_rfl
                          refine Bra.both (fun e1 => ?_) fun e1 => ?_
                          · rw [Bool.not_eq_true'] at e1
                            ac_rfl
                            exact ⟨by rw [et, e1]; rfl, rfl⟩
                          · rw [Bool.not_eq_false'] at e1
                            ac_rfl
                            rw [show cutD (sD (w :: r)) (some 1) none = sD r from cut_tail]
                            refine lc_filterH (as := r) PyData.str (fun t => !decide (t ∈ ts)) here_none (fun t ht => ?_) ?_
                            · refine Wp.lcB ?_
                              ac_rfl
                              refine notin_strs (name_lay (hr t ht)) (fun u hu => name_lay (htn u hu)) ?_
                              ac_rfl
                              refine Bra.both (fun e => ?_) fun e => ?_
                              · ac_rfl
                                exact ⟨by rw [if_pos e], rfl⟩
                              · ac_rfl
                                exact ⟨by rw [e]; rfl, rfl⟩
                            · have hl := hv'.1
                              have := List.length_filter_le (fun t => !decide (t ∈ ts)) r
                              refine ⟨by simp at hl; rw [List.length_map]; omega, ?_⟩
                              ac_rfl
                              refine eq_nil ?_
                              ac_rfl
                              rw [isEmpty_filter]
                              simp only [Bool.not_not]
                              refine Bra.both (fun e3 => ?_) fun e3 => ?_
                              · rw [Bool.not_eq_true'] at e3
                                ac_rfl
                                exact ⟨by rw [et, e1, e3]; rfl, rfl⟩
                              · rw [Bool.not_eq_false'] at e3
                                ac_rfl
                                exact ⟨by rw [et, e1, e3]; rfl, rfl⟩
                      · have := List.length_filter_le (fun f => !toldB ts f) fs
                        refine ⟨by omega, ?_⟩
                        ac_rfl
                        refine eq_nil ?_
                        ac_rfl
                        rw [all_filter]
                        have ew : worldB (.tuple [.list (sD ts), .list fs]) = (fs.all (toldB ts) && upD fs) := by
                          show (thingsB (.list (sD ts)) && (fs.all (toldB ((sD ts).map unStr)) && upD fs)) = _
                          rw [eT, e2, unStr_strs]
                          rfl
                        refine Bra.both (fun e1 => ?_) fun e1 => ?_
                        · rw [Bool.not_eq_true'] at e1
                          ac_rfl
                          refine bool_end ?_
                          rw [ew, e1]
                          rfl
                        · rw [Bool.not_eq_false'] at e1
                          ac_rfl
                          obtain ⟨gs, rfl, hgs⟩ := told_facts e1
                          refine Wp.of (up _ S hfl (comp_facts hgs)) ?_
                          ac_rfl
                          refine bool_end ?_
                          rw [ew, e1]
                          rfl
              · refine Bra.t (by simp; omega) ?_
                ac_rfl
                refine no ?_
                show (decide (1 ≤ xs.length ∧ xs.length ≤ 8) && _) = false
                rw [decide_eq_false (by omega)]
                rfl
            · refine Bra.t (by simp; omega) ?_
              ac_rfl
              refine no ?_
              show (decide (1 ≤ xs.length ∧ xs.length ≤ 8) && _) = false
              rw [decide_eq_false (by omega)]
              rfl
          | _ =>
            ac_rfl
            exact List.take_length
        | _ =>
          ac_rfl
          exact List.take_length
    · refine Bra.t (by simp; omega) ?_
      ac_rfl
      exact bool_end (world_no1 h2).symm
  | _ =>
    ac_rfl
    exact List.take_length
end Gs
end
section
set_option autoImplicit false
set_option linter.all false
set_option maxRecDepth 100000
set_option maxHeartbeats 1000000
/-! Ps3: how long what is shown is. -/
namespace Gs
open PySem Mp Mp.Ww Gd
local macro_rules | `(tactic| ac_rfl) => `(tactic| ((repeat ((conv => whnf); first | refine XE.st _ ?_ | refine XD.st _ ?_ | refine XV.st _ ?_ | refine XA.st _ ?_ | refine XO.st _ ?_ | refine XI.st _ ?_ | refine XS.st _ ?_ | refine XSs.st _ ?_ | refine Bra.t rfl ?_ | refine Bra.f rfl ?_ | refine Opt.of rfl ?_ | refine Opt.of atI_z ?_ | refine Opt.of atI_o ?_ | refine Opt.glb (by with_reducible assumption) ?_ | refine cm_int ?_ | refine cm_is ?_ | refine cm_eq ?_ | refine cm_ne ?_ | refine cm_gen ?_ | refine look_of (cfg_gen (by assumption)) ?_ | refine look_of (cfg_loc rfl) ?_ | refine And.intro (by first | with_reducible assumption | exact rfl | exact Nat.le_of_ble_eq_true rfl | exact ⟨rfl, Nat.le_of_ble_eq_true rfl⟩ | decide | omega | (have hsz := szl; omega)) ?_ | rw [cfg_set (by assumption)] | rw [cfg_setloc] | rw [cfg_push])); (try (conv => whnf))))
variable {Γ : Nat → List Val → M Val} {gl : List PyData} {X : XT}
theorem len_append (a b : Str) : (a ++ b).length = a.length + b.length := Array.size_append
abbrev Low (x : Str) : Prop := ∀ c ∈ x.cps.toList, c < 128
theorem low_append {a b : Str} (ha : Low a) (hb : Low b) : Low (a ++ b) := by
  intro c hc
  have e : (a ++ b).cps.toList = a.cps.toList ++ b.cps.toList := Array.toList_append
  rw [e] at hc
  rcases List.mem_append.mp hc with h | h
  · exact ha c h
  · exact hb c h
theorem low_lit {x : Str} (h : (x.cps.toList.all fun c => decide (c < 128)) = true) : Low x := fun c hc => of_decide_eq_true (List.all_eq_true.mp h c hc)
theorem hex_low : ∀ c, c < 128 → ((Nat.toDigits 16 c).map Char.toNat).all (fun d => decide (d < 128)) = true := by decide +kernel
theorem reprChar_low (q : Nat) {c : Nat} (h : c < 128) : ∀ d ∈ Builtin.Str.reprChar q c, d < 128 := by
  have hx := hex_low c h
  rw [List.all_eq_true] at hx
  have hx' : ∀ d ∈ (Nat.toDigits 16 c).map Char.toNat, d < 128 := fun d hd => of_decide_eq_true (hx d hd)
  unfold Builtin.Str.reprChar
  intro d hd
  split at hd
  · simp at hd; omega
  · split at hd
    · simp at hd; omega
    · split at hd
      · simp at hd; omega
      · split at hd
        · simp at hd; omega
        · split at hd
          · simp at hd; omega
          · split at hd
            · rw [List.mem_append, List.mem_append, List.mem_replicate] at hd
              rcases hd with hd | hd | hd
              · simp at hd; omega
              · omega
              · exact hx' d hd
            · omega
theorem reprText_low {x : Str} (h : Low x) : Low (reprText x) := by
  have key : ∀ (l : List Nat) (acc : Array Nat) (q : Nat), (∀ c ∈ l, c < 128) → (∀ c ∈ acc.toList, c < 128) → ∀ c ∈ (l.foldl (fun out c => out ++ (Builtin.Str.reprChar q c).toArray) acc).toList, c < 128 := by
    intro l
    induction l with
    | nil => intro acc q _ ha; exact ha
    | cons d l ih =>
      intro acc q hl ha
      rw [List.foldl_cons]
      refine ih _ q (fun c hc => hl c (List.mem_cons_of_mem _ hc)) fun c hc => ?_
      rw [Array.toList_append] at hc
      rcases List.mem_append.mp hc with q1 | q1
      · exact ha c q1
      · exact reprChar_low q (hl d (List.mem_cons_self ..)) c (by simpa using q1)
  have hq : reprQuote x < 128 := by
    unfold reprQuote
    split <;> decide
  unfold reprText
  intro c hc
  rw [← Array.foldl_toList, Array.toList_push, List.mem_append] at hc
  rcases hc with hc | hc
  · exact key x.cps.toList #[reprQuote x] (reprQuote x) h (fun c hc => by simp at hc; omega) c hc
  · simp at hc
    omega
theorem textFrom_low : ∀ (ts : List Str) (k : Nat) (acc : Str), (∀ t ∈ ts, Low t) → Low acc → Low (textFrom k acc ts)
  | [], k, acc, _, h => h
  | t :: r, k, acc, h, ha => by
    show Low (textFrom (k + 1) (acc ++ (if k > 0 then ", " else "" : String) ++ t) r)
    refine textFrom_low r _ _ (fun u hu => h u (List.mem_cons_of_mem _ hu)) (low_append (low_append ha ?_) (h t (List.mem_cons_self ..)))
    split <;> exact low_lit (by decide +kernel)
theorem join_low : ∀ (ts : List Str), (∀ t ∈ ts, Low t) → Low (Str.join ", " ts)
  | [], _ => by
    intro c hc
    have : c ∈ ([] : List Nat) := hc
    cases this
  | [x], h => h x (List.mem_cons_self ..)
  | x :: y :: r, h => by
    show Low (x ++ ", " ++ Str.join ", " (y :: r))
    refine low_append (low_append (h x (List.mem_cons_self ..)) ?_) (join_low (y :: r) fun u hu => h u (List.mem_cons_of_mem _ hu))
    exact low_lit (by decide +kernel)
theorem hex_len : ∀ c, c < 128 → (Nat.toDigits 16 c).length ≤ 2 := by decide +kernel
theorem reprChar_len (q : Nat) {c : Nat} (h : c < 128) : (Builtin.Str.reprChar q c).length ≤ 10 := by
  have hx := hex_len c h
  unfold Builtin.Str.reprChar
  repeat' split
  all_goals first | decide | (simp; omega) | simp
theorem reprText_len {x : Str} (h : ∀ c ∈ x.cps.toList, c < 128) : (reprText x).length ≤ 10 * x.length + 2 := by
  rw [← reprLen_eq]
  have key : ∀ (l : List Nat) (n q : Nat), (∀ c ∈ l, c < 128) → l.foldl (fun n c => n + (Builtin.Str.reprChar q c).length) n ≤ n + 10 * l.length := by
    intro l
    induction l with
    | nil => intro n q _; simp
    | cons c l ih =>
      intro n q hc
      rw [List.foldl_cons, List.length_cons]
      have := ih (n + (Builtin.Str.reprChar q c).length) q fun d hd => hc d (List.mem_cons_of_mem _ hd)
      have := reprChar_len q (hc c (List.mem_cons_self ..))
      omega
  have e := key x.cps.toList 2 (reprQuote x) h
  rw [Array.foldl_toList] at e
  have el : x.length = x.cps.toList.length := by simp [Str.length]
  rw [el]
  omega
theorem textFrom_le : ∀ (ts : List Str) (k : Nat) (acc : Str) (n : Nat), (∀ t ∈ ts, t.length ≤ n) → (textFrom k acc ts).length ≤ acc.length + (n + 2) * ts.length
  | [], k, acc, n, _ => by
    show acc.length ≤ _
    omega
  | t :: r, k, acc, n, h => by
    have ih := textFrom_le r (k + 1) (acc ++ (if k > 0 then ", " else "" : String) ++ t) n fun u hu => h u (List.mem_cons_of_mem _ hu)
    have ht := h t (List.mem_cons_self ..)
    have e : ((if k > 0 then ", " else "" : String) : Str).length ≤ 2 := by split <;> decide
    rw [len_append, len_append] at ih
    show (textFrom (k + 1) (acc ++ (if k > 0 then ", " else "" : String) ++ t) r).length ≤ _
    rw [List.length_cons, Nat.mul_succ]
    omega
theorem join_le (sep : Str) : ∀ (ts : List Str) (n : Nat), (∀ t ∈ ts, t.length ≤ n) → (Str.join sep ts).length ≤ (n + sep.length) * ts.length
  | [], n, _ => by show 0 ≤ _; omega
  | [x], n, h => by
    have := h x (List.mem_cons_self ..)
    show x.length ≤ (n + sep.length) * 1
    omega
  | x :: y :: r, n, h => by
    have ih := join_le sep (y :: r) n fun u hu => h u (List.mem_cons_of_mem _ hu)
    have hx := h x (List.mem_cons_self ..)
    show (x ++ sep ++ Str.join sep (y :: r)).length ≤ _
    rw [len_append, len_append, List.length_cons (a := x), Nat.mul_succ]
    omega
/-- small data -/
structure Sm (k n : Nat) (d : PyData) : Prop where
  sh : d.showable = true
  dp : d.depth ≤ k
  len : d.shown.length ≤ n
  fit : fitD d = true
  low : Low d.shown
theorem Sm.le {k n k' n' : Nat} {d : PyData} (h : Sm k n d) (hk : k ≤ k') (hn : n ≤ n') : Sm k' n' d := ⟨h.sh, Nat.le_trans h.dp hk, Nat.le_trans h.len hn, h.fit, h.low⟩
theorem Sm.str {x : Str} {m : Nat} (hl : Low x) (h : x.length ≤ m) (hm : m ≤ 1000) : Sm 0 (10 * m + 2) (.str x) := by
  refine ⟨rfl, Nat.le_refl _, ?_, ?_, by rw [PyData.shown]; exact reprText_low hl⟩
  · have := reprText_len hl
    rw [PyData.shown]
    omega
  · rw [fitD, szl]
    simp
    omega
theorem sm_all {k n : Nat} {xs : List PyData} (h : ∀ y ∈ xs, Sm k n y) : PyData.showableAll xs = true ∧ PyData.depthAll xs ≤ k ∧ (∀ t ∈ PyData.shownAll xs, t.length ≤ n) ∧ (PyData.shownAll xs).length = xs.length ∧ fitDs xs = true ∧ ∀ t ∈ PyData.shownAll xs, Low t := by
  induction xs with
  | nil => exact ⟨rfl, Nat.zero_le _, by simp [PyData.shownAll], rfl, rfl, by simp [PyData.shownAll]⟩
  | cons x xs ih =>
    obtain ⟨h1, h2, h3, h4, h5, h6⟩ := ih fun y hy => h y (List.mem_cons_of_mem _ hy)
    have hx := h x (List.mem_cons_self ..)
    refine ⟨by rw [PyData.showableAll, hx.sh, h1]; rfl, ?_, ?_, ?_, by rw [fitDs, hx.fit, h5]; rfl, ?_⟩
    · rw [PyData.depthAll]
      exact Nat.max_le.mpr ⟨hx.dp, h2⟩
    · rw [PyData.shownAll]
      intro t ht
      rcases List.mem_cons.mp ht with rfl | ht
      · exact hx.len
      · exact h3 t ht
    · rw [PyData.shownAll, List.length_cons, h4, List.length_cons]
    · rw [PyData.shownAll]
      intro t ht
      rcases List.mem_cons.mp ht with rfl | ht
      · exact hx.low
      · exact h6 t ht
theorem Sm.list {k n m : Nat} {xs : List PyData} (h : ∀ y ∈ xs, Sm k n y) (hl : xs.length ≤ m) (hm : m ≤ 10000) : Sm (k + 1) ((n + 2) * m + 2) (.list xs) := by
  obtain ⟨h1, h2, h3, h4, h5, h6⟩ := sm_all h
  refine ⟨by rw [PyData.showable]; exact h1, by rw [PyData.depth]; omega, ?_, ?_, ?_⟩
  · rw [PyData.shown]
    unfold listText
    rw [len_append]
    have q := textFrom_le (PyData.shownAll xs) 0 "[" n h3
    rw [h4] at q
    have e1 : ("[" : Str).length = 1 := by decide
    have e2 : ("]" : Str).length = 1 := by decide
    have := Nat.mul_le_mul_left (n + 2) hl
    omega
  · rw [fitD, h5, szl]
    simp
    omega
  · rw [PyData.shown]
    unfold listText
    exact low_append (textFrom_low _ _ _ h6 (low_lit (by decide +kernel))) (low_lit (by decide +kernel))
theorem Sm.tup {k n m : Nat} {xs : List PyData} (h : ∀ y ∈ xs, Sm k n y) (hl : xs.length ≤ m) (hm : m ≤ 10000) : Sm (k + 1) ((n + 2) * m + 3) (.tuple xs) := by
  obtain ⟨h1, h2, h3, h4, h5, h6⟩ := sm_all h
  refine ⟨by rw [PyData.showable]; exact h1, by rw [PyData.depth]; omega, ?_, ?_, ?_⟩
  · rw [PyData.shown]
    unfold tupleText
    rw [len_append, len_append]
    have q := join_le ", " (PyData.shownAll xs) n h3
    rw [h4] at q
    have e1 : ("(" : Str).length = 1 := by decide
    have e2 : ((if (PyData.shownAll xs).length == 1 then ",)" else ")" : String) : Str).length ≤ 2 := by split <;> decide
    have e3 : (", " : Str).length = 2 := by decide
    rw [e3] at q
    have := Nat.mul_le_mul_left (n + 2) hl
    omega
  · rw [fitD, h5, szl]
    simp
    omega
  · rw [PyData.shown]
    unfold tupleText
    refine low_append (low_append (low_lit (by decide +kernel)) (join_low _ h6)) ?_
    split <;> exact low_lit (by decide +kernel)
/-- repr(found) -/
theorem repr_pu {k n : Nat} {d : PyData} {K : PyData → Prop} (h : Sm k n d) (hk : k ≤ 60) (hn : n ≤ 16000000) (q : K (.str d.shown)) : Pu (b1D .repr d) K := by
  refine Pu.of (fun S => ?_) q
  show bnd (guard (d.showable && decide (d.shown.length + 64 ≤ sizeLine) && decide (d.depth ≤ 60))) (fun _ => ret (PyData.str d.shown)) S = _
  have h1 := h.len
  have h2 := h.dp
  rw [h.sh, decide_eq_true (by rw [szl]; omega), decide_eq_true (by omega)]
  rfl
end Gs
end
section
set_option autoImplicit false
set_option linter.all false
set_option maxRecDepth 100000
set_option maxHeartbeats 1000000
/-! Ps4: texts drawn; the words are right. -/
namespace Gs
open PySem Mp Mp.Ww Gd
local macro_rules | `(tactic| ac_rfl) => `(tactic| ((repeat ((conv => whnf); first | refine XE.st _ ?_ | refine XD.st _ ?_ | refine XV.st _ ?_ | refine XA.st _ ?_ | refine XO.st _ ?_ | refine XI.st _ ?_ | refine XS.st _ ?_ | refine XSs.st _ ?_ | refine Bra.t rfl ?_ | refine Bra.f rfl ?_ | refine Opt.of rfl ?_ | refine Opt.of atI_z ?_ | refine Opt.of atI_o ?_ | refine Opt.glb (by with_reducible assumption) ?_ | refine cm_int ?_ | refine cm_is ?_ | refine cm_eq ?_ | refine cm_ne ?_ | refine cm_gen ?_ | refine look_of (cfg_gen (by assumption)) ?_ | refine look_of (cfg_loc rfl) ?_ | refine And.intro (by first | with_reducible assumption | exact rfl | exact Nat.le_of_ble_eq_true rfl | exact ⟨rfl, Nat.le_of_ble_eq_true rfl⟩ | decide | omega | (have hsz := szl; omega)) ?_ | rw [cfg_set (by assumption)] | rw [cfg_setloc] | rw [cfg_push])); (try (conv => whnf))))
variable {Γ : Nat → List Val → M Val} {gl : List PyData} {X : XT}
def IsS (F : List Val → M Val) : Prop := ∀ (a : Bool) (S : Store), F [.d (.bool a), .d (.bool a)] S = .ok (.d (.bool true)) S
theorem is_ok : IsS (A__law_is.run Γ gl) := by
  intro a S
  refine Wp.eq (Wp.run rfl ?_)
  cases a with
  | true =>
    ac_rfl
    exact List.take_length
  | false =>
    ac_rfl
    exact List.take_length
def LINES : List Str := ["abcdefghijklmnopqrstuvwxyz", "0123456789", "ABCDEFGHIJKLMNOPQRSTUVWXYZ", "_ -.:,;()[]{}~!?/+*<>=&#@^|'"]
theorem lines_ok : ∀ l ∈ LINES, 1 ≤ l.length ∧ l.length ≤ 100 ∧ Low l := by
  intro l hl
  have : (LINES.all fun l => decide (1 ≤ l.length) && decide (l.length ≤ 100) && l.cps.toList.all fun c => decide (c < 128)) = true := by decide +kernel
  rw [List.all_eq_true] at this
  have := this l hl
  simp only [Bool.and_eq_true, decide_eq_true_eq, List.all_eq_true] at this
  exact ⟨this.1.1, this.1.2, this.2⟩
theorem ixs_pu {z : Str} {r : Int} {K : PyData → Prop} (hz : z.length ≤ sizeLine) (r0 : 0 ≤ r) (r1 : r < z.length) (k : ∀ c ∈ z.cps.toList, K (chr c)) : Pu (ixD (.str z) (.int r)) K := by
  have el : z.length = z.cps.toList.length := by simp [Str.length]
  obtain ⟨c, hc, e⟩ := atI_some (xs := z.cps.toList) r0 (by omega)
  refine Pu.of (fun S => ?_) (k c hc)
  show bnd (guard (decide (z.length ≤ sizeLine))) (fun _ => bnd (ofO (L2.atI z.cps.toList r)) fun c => ret (PyData.str ⟨#[c]⟩)) S = _
  rw [decide_eq_true hz, e]
  rfl
def SignS (F : List Val → M Val) : Prop := GW F [] 20 (fun v => ∃ c, v = .d (chr c) ∧ c < 128)
theorem sign_ok {kr : Nat} (random : RandS (Γ kr)) : SignS ((A__law_sign kr).run Γ gl) := by
  refine GW.run rfl fun S i g b hi ok hb => ?_
  ac_rfl
  refine GW.call (random 7 ⟨by omega, by omega⟩) ok hi (by omega) fun v g1 ok1 p => ?_
  obtain ⟨r, rfl, r0, r1⟩ := p
  ac_rfl
  obtain ⟨y, hy, e⟩ := atI_some (xs := [PyData.int 0, .int 0, .int 0, .int 1, .int 1, .int 2, .int 3]) r0 r1
  have hj : ∃ j : Int, y = .int j ∧ 0 ≤ j ∧ j < 4 := by
    simp only [List.mem_cons, List.not_mem_nil, or_false] at hy
    rcases hy with rfl | rfl | rfl | rfl | rfl | rfl | rfl <;> exact ⟨_, rfl, by decide, by decide⟩
  obtain ⟨j, rfl, j0, j1⟩ := hj
  refine Opt.of e ?_
  ac_rfl
  obtain ⟨x, hx, e2⟩ := atI_some (xs := sD LINES) j0 j1
  refine Opt.of e2 ?_
  obtain ⟨l, hl, rfl⟩ := List.mem_map.mp hx
  obtain ⟨l1, l2, l3⟩ := lines_ok l hl
  have hsz := szl
  ac_rfl
  refine GW.call (random l.length ⟨by omega, by omega⟩) ok1 hi (by omega) fun v g2 ok2 p => ?_
  obtain ⟨r, rfl, r0, r1⟩ := p
  ac_rfl
  refine ixs_pu (by omega) r0 r1 fun c hc => ?_
  ac_rfl
  exact EndG.d ok2 ⟨c, rfl, l3 c hc⟩
theorem strsOf_chr : ∀ (cs : List Nat) (S : Store), strsOf (cs.map chr) S = .ok (cs.map fun c => ⟨#[c]⟩) S
  | [], S => rfl
  | c :: cs, S => by
    show bnd (strsOf (cs.map chr)) (fun ys => ret ((⟨#[c]⟩ : Str) :: ys)) S = _
    unfold bnd
    rw [strsOf_chr cs S]
    rfl
theorem join_empty : ∀ cs : List Nat, (Str.join "" (cs.map fun c => (⟨#[c]⟩ : Str))).cps.toList = cs
  | [] => rfl
  | [c] => rfl
  | c :: d :: cs => by
    have ih := join_empty (d :: cs)
    show ((⟨#[c]⟩ : Str) ++ "" ++ Str.join "" ((⟨#[d]⟩ : Str) :: cs.map fun c => (⟨#[c]⟩ : Str))).cps.toList = _
    have e : ((⟨#[c]⟩ : Str) ++ "" ++ Str.join "" ((⟨#[d]⟩ : Str) :: cs.map fun c => (⟨#[c]⟩ : Str))).cps.toList = c :: (Str.join "" ((⟨#[d]⟩ : Str) :: cs.map fun c => (⟨#[c]⟩ : Str))).cps.toList := by
      show ((#[c] ++ ("" : Str).cps) ++ (Str.join "" _).cps).toList = _
      rw [show ("" : Str).cps = #[] from rfl]
      simp
    rw [e]
    rw [show ((⟨#[d]⟩ : Str) :: cs.map fun c => (⟨#[c]⟩ : Str)) = (d :: cs).map fun c => (⟨#[c]⟩ : Str) from rfl, ih]
theorem join_pu {cs : List Nat} {K : PyData → Prop} (h : cs.length ≤ 1000) (k : ∀ x : Str, x.cps.toList = cs → K (.str x)) : Pu (m1D .join (.str "") (.list (cs.map chr))) K := by
  have e : Txt.join "" (cs.map fun c => (⟨#[c]⟩ : Str)) = Str.join "" (cs.map fun c => (⟨#[c]⟩ : Str)) := by
    have := PyProof.Rows.join_plain_closes "" (cs.map fun c => (⟨#[c]⟩ : Str))
    exact eq_of_beq this
  refine Pu.of (fun S => ?_) (k (Txt.join "" (cs.map fun c => (⟨#[c]⟩ : Str))) (by rw [e]; exact join_empty cs))
  show bnd (strsOf (cs.map chr)) (fun ys => bnd (guard (decide ((ys.map fun y => y.length + ("" : Str).length).sum + 64 ≤ sizeLine))) fun _ => ret (PyData.str (Txt.join "" ys))) S = _
  unfold bnd
  rw [strsOf_chr]
  have hs : (((cs.map fun c => (⟨#[c]⟩ : Str)).map fun y => y.length + ("" : Str).length).sum + 64 ≤ sizeLine) := by
    have q : ((cs.map fun c => (⟨#[c]⟩ : Str)).map fun y => y.length + ("" : Str).length).sum = cs.length := by
      rw [List.map_map]
      have : ∀ cs : List Nat, (cs.map ((fun y : Str => y.length + ("" : Str).length) ∘ fun c => (⟨#[c]⟩ : Str))).sum = cs.length := by
        intro cs
        induction cs with
        | nil => rfl
        | cons c cs ih =>
          rw [List.map_cons, List.sum_cons, ih, List.length_cons]
          show 1 + cs.length = _
          omega
      exact this cs
    rw [q, szl]
    omega
  dsimp only
  rw [decide_eq_true hs]
  rfl
def TextS (F : List Val → M Val) : Prop := GW F [] 1000 (fun v => ∃ x : Str, v = .d (.str x) ∧ x.length ≤ 10 ∧ Low x)
theorem low_small' : ∀ c ∈ ("abcdefghijklmnopqrstuvwxyz" : Str).cps.toList, c < 128 := by decide +kernel
theorem low_capital' : ∀ c ∈ ("ABCDEFGHIJKLMNOPQRSTUVWXYZ" : Str).cps.toList, c < 128 := by decide +kernel
theorem low_both : ∀ c ∈ ("abcdefghijklmnopqrstuvwxyz0123456789" : Str).cps.toList, c < 128 := by decide +kernel
theorem text_ok {kr ks : Nat} (random : RandS (Γ kr)) (sign : SignS (Γ ks)) : TextS ((A__law_text kr ks).run Γ gl) := by
  have hsz := szl
  refine GW.run rfl fun S i g b hi ok hb => ?_
  ac_rfl
  refine GW.call (random 5 ⟨by omega, by omega⟩) ok hi (by omega) fun v g1 ok1 p => ?_
  obtain ⟨r, rfl, r0, r1⟩ := p
  ac_rfl
  refine Bra.both (fun _ => ?_) fun _ => ?_
  · ac_rfl
    refine GW.call (random 11 ⟨by omega, by omega⟩) ok1 hi (by omega) fun v g2 ok2 p => ?_
    obtain ⟨n, rfl, n0, n1⟩ := p
    ac_rfl
    refine lc_genM (c := 20) (fun y => ∃ c, y = chr c ∧ c < 128) ok2 (by rw [rng_len]; omega) (fun v g' b' hv ok' hb' => ?_) fun ys g3 hys hP ok3 => ?_
    · refine Wp.lcB ?_
      ac_rfl
      refine GW.call sign ok' hi hb' fun v g4 ok4 p => ?_
      obtain ⟨c, rfl, hc⟩ := p
      ac_rfl
      exact ⟨g4, _, rfl, rfl, ok4, c, rfl, hc⟩
    · rw [rng_len] at hys ok3
      obtain ⟨cs, rfl, hcs⟩ : ∃ cs : List Nat, ys = cs.map chr ∧ ∀ c ∈ cs, c < 128 := by
        clear hys
        induction ys with
        | nil => exact ⟨[], rfl, by simp⟩
        | cons y ys ih =>
          obtain ⟨cs, rfl, h⟩ := ih fun z hz => hP z (List.mem_cons_of_mem _ hz)
          obtain ⟨c, rfl, hc⟩ := hP y (List.mem_cons_self ..)
          exact ⟨c :: cs, rfl, fun d hd => by
            rcases List.mem_cons.mp hd with rfl | hd
            · exact hc
            · exact h d hd⟩
      rw [List.length_map] at hys
      refine ⟨by rw [List.length_map]; omega, ?_⟩
      ac_rfl
      refine join_pu (by omega) fun x hx => ?_
      ac_rfl
      refine EndG.d (ok3.le (by omega)) ⟨x, rfl, ?_, ?_⟩
      · have el : x.length = x.cps.toList.length := by simp [Str.length]
        rw [el, hx]
        omega
      · show ∀ c ∈ x.cps.toList, c < 128
        rw [hx]
        exact hcs
  · ac_rfl
    have loop : ∀ (c : Nat) (g2 : List PyData) (o : Option Val), c < 128 → GenOk (b + 100) g2 → XSs Γ gl nx (match (A__law_text kr ks).body with | .cons _ (.cons _ (.cons _ b)) => b | _ => .nil) [some (.c i), some (.d (.int r)), some (.d (chr c)), o] (endX S false (EndG S i b 1000 fun v => ∃ x : Str, v = .d (.str x) ∧ x.length ≤ 10 ∧ Low x)) (cfg S i g2 []) := by
      intro c g2 o hc ok2
      ac_rfl
      refine GW.call (random 9 ⟨by omega, by omega⟩) ok2 hi (by omega) fun v g3 ok3 p => ?_
      obtain ⟨n, rfl, n0, n1⟩ := p
      ac_rfl
      refine Wp.forD (fun dn env T => ∃ (x : Str) (o : Option Val) (g' : List PyData), env = [some (.c i), some (.d (.int r)), some (.d (.str x)), o] ∧ T = cfg S i g' [] ∧ x.length = dn.length + 1 ∧ Low x ∧ GenOk (b + 200 + 10 * dn.length) g') (fun _ _ _ _ => here_none) (fun dn v vs env T hits inv => ?_) (fun env T inv => ?_) ⟨⟨#[c]⟩, _, g3, rfl, rfl, rfl, fun d hd => by simp at hd; exact hd ▸ hc, ok3.le (by simp)⟩
      · obtain ⟨x, o, g', rfl, rfl, hx, hlow, ok'⟩ := inv
        have hlen := congrArg List.length hits
        rw [rng_len] at hlen
        simp at hlen
        have hsz := szl
        refine Wp.foB ?_
        ac_rfl
        refine GW.call (random 36 ⟨by omega, by omega⟩) ok' hi (by omega) fun v g4 ok4 p => ?_
        obtain ⟨j, rfl, j0, j1⟩ := p
        ac_rfl
        refine ixs_pu (by decide) j0 (by exact j1) fun d hd => ?_
        ac_rfl
        refine ⟨by show x.length + 1 ≤ _; omega, ?_⟩
        ac_rfl
        refine ⟨x ++ ⟨#[d]⟩, _, g4, rfl, rfl, ?_, ?_, ok4.le (by simp; omega)⟩
        · rw [len_append, hx, List.length_append]
          rfl
        · intro e he
          have : (x ++ (⟨#[d]⟩ : Str)).cps.toList = x.cps.toList ++ [d] := Array.toList_append
          rw [this] at he
          rcases List.mem_append.mp he with h | h
          · exact hlow e h
          · rw [List.mem_singleton] at h
            exact h ▸ low_both d hd
      · obtain ⟨x, o, g', rfl, rfl, hx, hlow, ok'⟩ := inv
        rw [rng_len] at hx ok'
        ac_rfl
        exact EndG.d (ok'.le (by omega)) ⟨x, rfl, by omega, hlow⟩
    refine Bra.both (fun _ => ?_) fun _ => ?_
    · ac_rfl
      refine GW.call (random 26 ⟨by omega, by omega⟩) ok1 hi (by omega) fun v g2 ok2 p => ?_
      obtain ⟨j, rfl, j0, j1⟩ := p
      ac_rfl
      refine ixs_pu (by decide) j0 (by exact j1) fun d hd => ?_
      exact loop d g2 _ (low_small' d hd) (ok2.le (by omega))
    · ac_rfl
      refine GW.call (random 26 ⟨by omega, by omega⟩) ok1 hi (by omega) fun v g2 ok2 p => ?_
      obtain ⟨j, rfl, j0, j1⟩ := p
      ac_rfl
      refine ixs_pu (by decide) j0 (by exact j1) fun d hd => ?_
      exact loop d g2 _ (low_capital' d hd) (ok2.le (by omega))
/-! ### the words are right -/
def WordsS (F : List Val → M Val) : Prop := GW F [] 100000 (fun v => v = .d (.bool true))
theorem fitT {xs : List PyData} (h : ∀ x ∈ xs, fitD x = true) (hl : xs.length ≤ 1000) : fitD (.tuple xs) = true := by
  rw [fitD, fitDs_all.mpr h, szl]
  simp
  omega
theorem fitW {x : Str} (h : x.length ≤ 1000) : fitD (.str x) = true := by
  rw [fitD, szl]
  simp
  omega
theorem filter_no {α : Type} (l : List α) : l.filter (fun _ => false) = [] := by simp
theorem words_ok {ki kf kg kn km kd kw kt : Nat} (is : IsS (Γ ki)) (fact : FactS (Γ kf)) (duefact : FactS (Γ kg)) (name : NameS (Γ kn)) (duename : DueNameS (Γ km)) (cap : CapS (Γ kd)) (word : DueWordS (Γ kw)) (text : TextS (Γ kt)) : WordsS ((A__law_words_right ki kf kg kn km kd kw kt).run Γ gl) := by
  have hsz := szl
  refine GW.run rfl fun S i g b hi ok hb => ?_
  ac_rfl
  refine lc_genM (c := 1000) (fun y => fitD y = true) ok (by rw [rng_len]; omega) (fun v g' b' hv ok' hb' => ?_) fun ys g1 hys hP ok1 => ?_
  · refine Wp.lcB ?_
    ac_rfl
    refine GW.call text ok' hi hb' fun v g2 ok2 p => ?_
    obtain ⟨x, rfl, hx, _⟩ := p
    ac_rfl
    exact ⟨g2, _, rfl, rfl, ok2, fitW (by omega)⟩
  rw [rng_len] at hys ok1
  have hys8 : ys.length = 8 := hys
  refine ⟨by omega, ?_⟩
  ac_rfl
  refine ⟨by rw [List.length_append, hys8]; decide, ?_⟩
  ac_rfl
  refine ⟨by rw [List.length_append, List.length_append, hys8]; decide, ?_⟩
  ac_rfl
  refine Wp.of rfl ?_
  ac_rfl
  refine ⟨by rw [List.length_append, List.length_append, List.length_append, hys8]; decide, ?_⟩
  ac_rfl
  have chk : ∀ (d : PyData), fitD d = true → ∀ T, Γ kn [.d d] T = .ok (.d (.bool (spelledD SMALL d))) T ∧ Γ km [.d d] T = .ok (.d (.bool (spelledD SMALL d))) T ∧ Γ kd [.d d] T = .ok (.d (.bool (spelledD CAPITAL d))) T ∧ Γ kw [.d d, .d (.str "ABCDEFGHIJKLMNOPQRSTUVWXYZ")] T = .ok (.d (.bool (spelledD CAPITAL d))) T := fun d hd T =>
    ⟨name d T (fit_len hd), duename d T (fit_len hd), cap d T (fit_len hd), word d CAPITAL T (fit_len hd)⟩
  refine Wp.forI (fun vs env T => (∀ v ∈ vs, ∃ d, v = Val.d d ∧ fitD d = true) ∧ ∃ o3 o5, env = [some (.c i), some (.d (.list (ys ++ [PyData.str "", PyData.str "a", PyData.str "A", PyData.str "0", PyData.str "a0", PyData.str "a01", PyData.str "abcdefgh", PyData.str "abcdefghi", PyData.str "Abcdefgh", PyData.str "Abcdefghi"] ++ [PyData.str "aB", PyData.str "AB", PyData.str "Goal", PyData.str "goal", PyData.str "a b", PyData.str " a", PyData.str "a\n"]))), some (.d (.list [PyData.none, PyData.bool true, PyData.int 7, PyData.tuple [], PyData.list [], PyData.tuple [PyData.str "a"], PyData.list [PyData.str "a"], PyData.dict (putD [] (PyData.str "a") (PyData.int 1))])), o3, none, o5, none] ∧ T = cfg S i g1 []) (fun _ _ _ _ => here_none) (fun v vs env T inv => ?_) (fun env T inv => ?_) ⟨fun v hv => ?_, _, _, rfl, rfl⟩
  · obtain ⟨hvs, o3, o5, rfl, rfl⟩ := inv
    obtain ⟨d, rfl, hd⟩ := hvs v (List.mem_cons_self ..)
    have hd1 : fitD (.tuple [d]) = true := fitT (by intro x hx; simp at hx; exact hx ▸ hd) (by simp)
    refine Wp.foB ?_
    ac_rfl
    refine Wp.of (chk d hd _).1 ?_
    ac_rfl
    refine Wp.of (chk d hd _).2.1 ?_
    ac_rfl
    refine Wp.of (is _ _) ?_
    ac_rfl
    refine Wp.of (fact _ _ hd1) ?_
    ac_rfl
    refine Wp.of (duefact _ _ hd1) ?_
    ac_rfl
    refine Wp.of (is _ _) ?_
    ac_rfl
    refine Wp.of (chk d hd _).2.2.1 ?_
    ac_rfl
    refine Wp.of (chk d hd _).2.2.2 ?_
    ac_rfl
    refine Wp.of (is _ _) ?_
    ac_rfl
    refine Wp.of (chk d hd _).1 ?_
    ac_rfl
    refine Wp.of (chk d hd _).2.1 ?_
    ac_rfl
    refine Wp.of (is _ _) ?_
    ac_rfl
    refine Wp.of (chk d hd _).2.2.1 ?_
    ac_rfl
    refine Wp.of (chk d hd _).2.2.2 ?_
    ac_rfl
    refine Wp.of (is _ _) ?_
    ac_rfl
    refine Wp.forI (fun us env T => (∀ v ∈ us, ∃ d, v = Val.d d ∧ fitD d = true) ∧ ∃ o3 o5, env = [some (.c i), some (.d (.list (ys ++ [PyData.str "", PyData.str "a", PyData.str "A", PyData.str "0", PyData.str "a0", PyData.str "a01", PyData.str "abcdefgh", PyData.str "abcdefghi", PyData.str "Abcdefgh", PyData.str "Abcdefghi"] ++ [PyData.str "aB", PyData.str "AB", PyData.str "Goal", PyData.str "goal", PyData.str "a b", PyData.str " a", PyData.str "a\n"]))), some (.d (.list [PyData.none, PyData.bool true, PyData.int 7, PyData.tuple [], PyData.list [], PyData.tuple [PyData.str "a"], PyData.list [PyData.str "a"], PyData.dict (putD [] (PyData.str "a") (PyData.int 1))])), o3, none, o5, none] ∧ T = cfg S i g1 []) (fun _ _ _ _ => here_none) (fun v us env T inv => ?_) (fun env T inv => ?_) ⟨fun v hv => ?_, _, _, rfl, rfl⟩
    · obtain ⟨hus, o3, o5, rfl, rfl⟩ := inv
      obtain ⟨d, rfl, hd⟩ := hus v (List.mem_cons_self ..)
      refine Wp.foB ?_
      ac_rfl
      refine Wp.of (fact _ _ hd) ?_
      ac_rfl
      refine Wp.of (duefact _ _ hd) ?_
      ac_rfl
      refine Wp.of (is _ _) ?_
      ac_rfl
      exact ⟨fun v hv => hus v (List.mem_cons_of_mem _ hv), _, _, rfl, rfl⟩
    · obtain ⟨hus, o3, o5, rfl, rfl⟩ := inv
      ac_rfl
      exact ⟨fun v hv => hvs v (List.mem_cons_of_mem _ hv), _, _, rfl, rfl⟩
    · obtain ⟨x, hx, rfl⟩ := List.mem_map.mp hv
      refine ⟨x, rfl, ?_⟩
      simp only [List.mem_cons, List.not_mem_nil, or_false] at hx
      rcases hx with rfl | rfl | rfl | rfl | rfl
      · exact hd1
      all_goals
        refine fitT (fun y hy => ?_) (by simp)
        simp only [List.mem_cons, List.not_mem_nil, or_false] at hy
        rcases hy with rfl | rfl | rfl | rfl | rfl <;> first | exact hd | exact fitW (by decide)
  · obtain ⟨hvs, o3, o5, rfl, rfl⟩ := inv
    ac_rfl
    refine Wp.lc_filter (fun _ => false) here_none (fun x hx => ?_) ?_
    · have hd : fitD x = true := List.all_eq_true.mp (by decide +kernel) x hx
      refine Wp.lcB ?_
      ac_rfl
      refine Wp.of (fact _ _ hd) ?_
      ac_rfl
      refine Wp.of (duefact _ _ hd) ?_
      ac_rfl
      refine Wp.of (is _ _) ?_
      ac_rfl
    · rw [filter_no]
      ac_rfl
      refine eq_nil ?_
      ac_rfl
      exact EndG.d (ok1.le (by omega)) rfl
  · obtain ⟨x, hx, rfl⟩ := List.mem_map.mp hv
    refine ⟨x, rfl, ?_⟩
    rcases List.mem_append.mp hx with h | h
    · rcases List.mem_append.mp h with h | h
      · rcases List.mem_append.mp h with h | h
        · exact hP x h
        · exact List.all_eq_true.mp (by decide +kernel) x h
      · exact List.all_eq_true.mp (by decide +kernel) x h
    · exact List.all_eq_true.mp (by decide +kernel) x h
end Gs
end
section
set_option autoImplicit false
set_option linter.all false
/-! Gd03: defs new with the law k03 (printed by mklib.py) -/
namespace Gd
open PySem Mp
def A_is_count : Fn := ⟨1, 1, (.cons (.rtn (.and (.cons (.isi (.var 0) .tint) (.cons (.not (.isi (.var 0) .tbool)) (.cons (.cmp .ge (.var 0) (.con (.int 0))) .nil))))) .nil), false⟩
def A_is_case (k_is_world : Nat) : Fn := ⟨1, 2, (.cons (.ifs (.or (.cons (.not (.isi (.var 0) .ttuple)) (.cons (.cmp .ne (.b1 .len (.var 0)) (.con (.int 2))) (.cons (.not (.call k_is_world (.cons (.ix (.var 0) (.con (.int 0))) .nil))) .nil)))) (.cons (.rtn (.con (.bool false))) .nil) .nil) (.cons (.ifs (.or (.cons (.not (.isi (.ix (.var 0) (.con (.int 1))) .tlist)) (.cons (.cmp .gt (.b1 .len (.ix (.var 0) (.con (.int 1)))) (.con (.int 3))) .nil))) (.cons (.rtn (.con (.bool false))) .nil) .nil) (.cons (.rtn (.cmp .eq (.lc (.var 1) (.nm 1) (.val (.ix (.var 0) (.con (.int 1)))) (.cons (.or (.cons (.not (.isi (.var 1) .tstr)) (.cons (.cmp .notin (.var 1) (.ix (.ix (.var 0) (.con (.int 0))) (.con (.int 0)))) .nil))) .nil) [1]) (.lst .nil))) .nil))), false⟩
def A_is_pool (k_is_case : Nat) : Fn := ⟨1, 2, (.cons (.ifs (.or (.cons (.not (.isi (.var 0) .tlist)) (.cons (.cmp .ne (.lc (.var 1) (.nm 1) (.val (.var 0)) (.cons (.not (.call k_is_case (.cons (.var 1) .nil))) .nil) [1]) (.lst .nil)) .nil))) (.cons (.rtn (.con (.bool false))) .nil) .nil) (.cons (.rtn (.cmp .eq (.lc (.var 1) (.nm 1) (.val (.var 0)) (.cons (.cmp .ne (.b1 .len (.ix (.var 1) (.con (.int 1)))) (.b1 .len (.ix (.ix (.var 0) (.con (.int 0))) (.con (.int 1))))) .nil) [1]) (.lst .nil))) .nil)), false⟩
def A_is_lot (k_is_pool : Nat) : Fn := ⟨1, 1, (.cons (.ifs (.or (.cons (.not (.isi (.var 0) .ttuple)) (.cons (.cmp .ne (.b1 .len (.var 0)) (.con (.int 2))) .nil))) (.cons (.rtn (.con (.bool false))) .nil) .nil) (.cons (.ifs (.or (.cons (.not (.isi (.ix (.var 0) (.con (.int 0))) .tlist)) (.cons (.not (.isi (.ix (.var 0) (.con (.int 1))) .tlist)) .nil))) (.cons (.rtn (.con (.bool false))) .nil) .nil) (.cons (.rtn (.call k_is_pool (.cons (.bin .add (.ix (.var 0) (.con (.int 0))) (.ix (.var 0) (.con (.int 1)))) .nil))) .nil))), false⟩
def A_is_strength (k_is_count : Nat) : Fn := ⟨1, 1, (.cons (.ifs (.or (.cons (.not (.isi (.var 0) .ttuple)) (.cons (.cmp .ne (.b1 .len (.var 0)) (.con (.int 2))) (.cons (.not (.call k_is_count (.cons (.ix (.var 0) (.con (.int 0))) .nil))) (.cons (.not (.call k_is_count (.cons (.ix (.var 0) (.con (.int 1))) .nil))) .nil))))) (.cons (.rtn (.con (.bool false))) .nil) .nil) (.cons (.rtn (.and (.cons (.cmp .le (.ix (.var 0) (.con (.int 0))) (.con (.int 3))) (.cons (.cmp .le (.ix (.var 0) (.con (.int 0))) (.ix (.var 0) (.con (.int 1)))) .nil)))) .nil)), false⟩
def A__law_due_case (k_is_world : Nat) : Fn := ⟨1, 2, (.cons (.ifs (.or (.cons (.not (.isi (.var 0) .ttuple)) (.cons (.cmp .ne (.b1 .len (.var 0)) (.con (.int 2))) (.cons (.cmp .isnot (.call k_is_world (.cons (.ix (.var 0) (.con (.int 0))) .nil)) (.con (.bool true))) (.cons (.not (.isi (.ix (.var 0) (.con (.int 1))) .tlist)) (.cons (.cmp .gt (.b1 .len (.ix (.var 0) (.con (.int 1)))) (.con (.int 3))) .nil)))))) (.cons (.rtn (.con (.bool false))) .nil) .nil) (.cons (.rtn (.cmp .eq (.lc (.var 1) (.nm 1) (.val (.ix (.var 0) (.con (.int 1)))) (.cons (.or (.cons (.not (.isi (.var 1) .tstr)) (.cons (.cmp .notin (.var 1) (.ix (.ix (.var 0) (.con (.int 0))) (.con (.int 0)))) .nil))) .nil) [1]) (.lst .nil))) .nil)), false⟩
def A__law_due_pool (k__law_due_case : Nat) : Fn := ⟨1, 2, (.cons (.ifs (.or (.cons (.not (.isi (.var 0) .tlist)) (.cons (.cmp .ne (.lc (.var 1) (.nm 1) (.val (.var 0)) (.cons (.not (.call k__law_due_case (.cons (.var 1) .nil))) .nil) [1]) (.lst .nil)) .nil))) (.cons (.rtn (.con (.bool false))) .nil) .nil) (.cons (.rtn (.cmp .eq (.lc (.var 1) (.nm 1) (.val (.var 0)) (.cons (.cmp .ne (.b1 .len (.ix (.var 1) (.con (.int 1)))) (.b1 .len (.ix (.ix (.var 0) (.con (.int 0))) (.con (.int 1))))) .nil) [1]) (.lst .nil))) .nil)), false⟩
def A__law_due_lot (k__law_due_pool : Nat) : Fn := ⟨1, 1, (.cons (.ifs (.or (.cons (.not (.isi (.var 0) .ttuple)) (.cons (.cmp .ne (.b1 .len (.var 0)) (.con (.int 2))) (.cons (.not (.isi (.ix (.var 0) (.con (.int 0))) .tlist)) (.cons (.not (.isi (.ix (.var 0) (.con (.int 1))) .tlist)) .nil))))) (.cons (.rtn (.con (.bool false))) .nil) .nil) (.cons (.rtn (.call k__law_due_pool (.cons (.bin .add (.ix (.var 0) (.con (.int 0))) (.ix (.var 0) (.con (.int 1)))) .nil))) .nil)), false⟩
def A__law_due_count : Fn := ⟨1, 1, (.cons (.rtn (.and (.cons (.isi (.var 0) .tint) (.cons (.not (.isi (.var 0) .tbool)) (.cons (.cmp .ge (.var 0) (.con (.int 0))) .nil))))) .nil), false⟩
def A__law_due_strength (k__law_due_count : Nat) : Fn := ⟨1, 1, (.cons (.ifs (.or (.cons (.not (.isi (.var 0) .ttuple)) (.cons (.cmp .ne (.b1 .len (.var 0)) (.con (.int 2))) (.cons (.not (.call k__law_due_count (.cons (.ix (.var 0) (.con (.int 0))) .nil))) (.cons (.not (.call k__law_due_count (.cons (.ix (.var 0) (.con (.int 1))) .nil))) .nil))))) (.cons (.rtn (.con (.bool false))) .nil) .nil) (.cons (.rtn (.and (.cons (.cmp .le (.ix (.var 0) (.con (.int 0))) (.con (.int 3))) (.cons (.cmp .le (.ix (.var 0) (.con (.int 0))) (.ix (.var 0) (.con (.int 1)))) .nil)))) .nil)), false⟩
def A__law_near_cases_x1 : Exs := (.cons (.tup (.cons (.tup (.cons (.lst .nil) (.cons (.lst .nil) .nil))) (.cons (.lst .nil) .nil))) (.cons (.tup (.cons (.tup (.cons (.rev (.var 3)) (.cons (.lst .nil) .nil))) (.cons (.lst .nil) .nil))) (.cons (.con .none) (.cons (.dd .nil) (.cons (.con (.str "")) (.cons (.con (.int 7)) (.cons (.tup (.cons (.tup (.cons (.var 3) (.cons (.lst (.cons (.tup (.cons (.con (.str "Goal")) .nil)) .nil)) .nil))) (.cons (.var 2) .nil))) .nil)))))))
def A__law_near_cases_x2 : Exs := (.cons (.tup (.cons (.var 1) (.cons (.lst (.cons (.con .none) .nil)) .nil))) (.cons (.tup (.cons (.var 1) (.cons (.lst (.cons (.var 3) .nil)) .nil))) (.cons (.lst (.cons (.var 1) (.cons (.var 2) .nil))) (.cons (.tup (.cons (.var 1) .nil)) (.cons (.tup (.cons (.var 1) (.cons (.var 2) (.cons (.lst .nil) .nil)))) (.cons (.tup (.cons (.con .none) (.cons (.var 2) .nil))) (.cons (.tup (.cons (.var 3) (.cons (.var 2) .nil))) .nil)))))))
def A__law_near_cases_x3 : Exs := (.cons (.tup (.cons (.var 1) (.cons (.bin .mul (.slt (.var 3) (.con (.int 1))) (.con (.int 3))) .nil))) (.cons (.tup (.cons (.var 1) (.cons (.bin .mul (.slt (.var 3) (.con (.int 1))) (.con (.int 4))) .nil))) (.cons (.tup (.cons (.var 1) (.cons (.slt (.var 3) (.con (.int 3))) .nil))) (.cons (.tup (.cons (.var 1) (.cons (.var 3) .nil))) (.cons (.tup (.cons (.var 1) (.cons (.b1 .tuple (.var 2)) .nil))) (.cons (.tup (.cons (.var 1) (.cons (.con .none) .nil))) .nil))))))
def A__law_near_cases_x4 : Sms := (.cons (.asg (.nm 4) (.lst (.cons (.var 0) (.cons (.tup (.cons (.var 1) (.cons (.lst .nil) .nil))) A__law_near_cases_x3)))) (.cons (.asg (.nm 4) (.bin .add (.var 4) (.lst (.cons (.tup (.cons (.var 1) (.cons (.bin .add (.var 2) (.lst (.cons (.con (.str "zzz")) .nil))) .nil))) (.cons (.tup (.cons (.var 1) (.cons (.lst (.cons (.con (.int 7)) .nil)) .nil))) A__law_near_cases_x2))))) (.cons (.rtn (.bin .add (.var 4) (.lst A__law_near_cases_x1))) .nil)))
def A__law_near_cases : Fn := ⟨1, 5, (.cons (.asg (.tp [1, 2]) (.var 0)) (.cons (.asg (.nm 3) (.ix (.var 1) (.con (.int 0)))) A__law_near_cases_x4)), false⟩
def A__law_cases_right_x1 (k__law_is : Nat) (k_is_lot : Nat) (k__law_due_lot : Nat) (k_is_case : Nat) (k_is_strength : Nat) (k_is_pool : Nat) (k__law_due_pool : Nat) (k__law_due_case : Nat) (k__law_near_cases : Nat) (k__law_drawn_cases : Nat) : Ex := (.bin .add (.bin .add (.var 9) (.lst (.cons (.tup (.cons (.b1 .tuple (.var 1)) (.cons (.lst .nil) .nil))) (.cons (.tup (.cons (.lst .nil) (.cons (.b1 .tuple (.var 1)) .nil))) (.cons (.tup (.cons (.con .none) (.cons (.lst .nil) .nil))) (.cons (.tup (.cons (.lst .nil) (.cons (.con .none) .nil))) (.cons (.con .none) (.cons (.dd .nil) (.cons (.lst .nil) (.cons (.var 1) .nil)))))))))) (.lc (.tup (.cons (.lst (.cons (.var 8) .nil)) (.cons (.lst .nil) .nil))) (.nm 8) (.val (.var 4)) .nil [8]))
def A__law_cases_right_x2 (k__law_is : Nat) (k_is_lot : Nat) (k__law_due_lot : Nat) (k_is_case : Nat) (k_is_strength : Nat) (k_is_pool : Nat) (k__law_due_pool : Nat) (k__law_due_case : Nat) (k__law_near_cases : Nat) (k__law_drawn_cases : Nat) : Sms := (.cons (.asg (.nm 9) (.bin .add (A__law_cases_right_x1 k__law_is k_is_lot k__law_due_lot k_is_case k_is_strength k_is_pool k__law_due_pool k__law_due_case k__law_near_cases k__law_drawn_cases) (.lc (.tup (.cons (.var 1) (.cons (.lst (.cons (.var 8) .nil)) .nil))) (.nm 8) (.val (.var 4)) .nil [8]))) (.cons (.ifs (.cmp .ne (.lc (.var 8) (.nm 8) (.val (.var 9)) (.cons (.not (.call k__law_is (.cons (.call k_is_lot (.cons (.var 8) .nil)) (.cons (.call k__law_due_lot (.cons (.var 8) .nil)) .nil)))) .nil) [8]) (.lst .nil)) (.cons (.rtn (.con (.bool false))) .nil) .nil) (.cons (.rtn (.cmp .eq (.b1 .repr (.lst (.cons (.var 1) (.cons (.var 4) .nil)))) (.var 5))) .nil)))
def A__law_cases_right_x3 (k__law_is : Nat) (k_is_lot : Nat) (k__law_due_lot : Nat) (k_is_case : Nat) (k_is_strength : Nat) (k_is_pool : Nat) (k__law_due_pool : Nat) (k__law_due_case : Nat) (k__law_near_cases : Nat) (k__law_drawn_cases : Nat) : Exs := (.cons (.tup (.cons (.var 1) (.cons (.lst (.cons (.var 6) .nil)) .nil))) (.cons (.tup (.cons (.lst (.cons (.var 6) .nil)) (.cons (.lst (.cons (.var 6) .nil)) .nil))) (.cons (.tup (.cons (.lst (.cons (.var 6) .nil)) (.cons (.var 1) .nil))) (.cons (.lst (.cons (.var 1) (.cons (.var 1) .nil))) (.cons (.tup (.cons (.var 1) .nil)) (.cons (.tup (.cons (.var 1) (.cons (.lst .nil) (.cons (.lst .nil) .nil)))) .nil))))))
def A__law_cases_right_x4 (k__law_is : Nat) (k_is_lot : Nat) (k__law_due_lot : Nat) (k_is_case : Nat) (k_is_strength : Nat) (k_is_pool : Nat) (k__law_due_pool : Nat) (k__law_due_case : Nat) (k__law_near_cases : Nat) (k__law_drawn_cases : Nat) : Exs := (.cons (.tup (.cons (.var 1) (.cons (.lst .nil) .nil))) (.cons (.tup (.cons (.lst .nil) (.cons (.var 1) .nil))) (.cons (.tup (.cons (.slt (.var 1) (.con (.int 2))) (.cons (.slf (.var 1) (.con (.int 2))) .nil))) (.cons (.tup (.cons (.var 1) (.cons (.var 1) .nil))) (A__law_cases_right_x3 k__law_is k_is_lot k__law_due_lot k_is_case k_is_strength k_is_pool k__law_due_pool k__law_due_case k__law_near_cases k__law_drawn_cases)))))
def A__law_cases_right_x5 (k__law_is : Nat) (k_is_lot : Nat) (k__law_due_lot : Nat) (k_is_case : Nat) (k_is_strength : Nat) (k_is_pool : Nat) (k__law_due_pool : Nat) (k__law_due_case : Nat) (k__law_near_cases : Nat) (k__law_drawn_cases : Nat) : Sms := (.cons (.asg (.nm 9) (.lst (.cons (.tup (.cons (.lst .nil) (.cons (.lst .nil) .nil))) (A__law_cases_right_x4 k__law_is k_is_lot k__law_due_lot k_is_case k_is_strength k_is_pool k__law_due_pool k__law_due_case k__law_near_cases k__law_drawn_cases)))) (A__law_cases_right_x2 k__law_is k_is_lot k__law_due_lot k_is_case k_is_strength k_is_pool k__law_due_pool k__law_due_case k__law_near_cases k__law_drawn_cases))
def A__law_cases_right_x6 (k__law_is : Nat) (k_is_lot : Nat) (k__law_due_lot : Nat) (k_is_case : Nat) (k_is_strength : Nat) (k_is_pool : Nat) (k__law_due_pool : Nat) (k__law_due_case : Nat) (k__law_near_cases : Nat) (k__law_drawn_cases : Nat) : Exs := (.cons (.cmp .isnot (.callk k_is_lot (.cons (.tup (.cons (.bin .mul (.slt (.var 1) (.con (.int 1))) (.con (.int 13))) (.cons (.bin .mul (.var 1) (.con (.int 4))) .nil))) .nil) [0]) (.con (.bool true))) (.cons (.cmp .isnot (.callk k_is_case (.cons (.ix (.var 1) (.con (.int 0))) .nil) [0]) (.con (.bool true))) (.cons (.cmp .isnot (.callk k_is_strength (.cons (.tup (.cons (.con (.int 1)) (.cons (.con (.int 2)) .nil))) .nil) [0]) (.con (.bool true))) .nil)))
def A__law_cases_right_x7 (k__law_is : Nat) (k_is_lot : Nat) (k__law_due_lot : Nat) (k_is_case : Nat) (k_is_strength : Nat) (k_is_pool : Nat) (k__law_due_pool : Nat) (k__law_due_case : Nat) (k__law_near_cases : Nat) (k__law_drawn_cases : Nat) : Sms := (.cons (.for_ (.nm 8) (.val (.var 7)) (.cons (.ifs (.or (.cons (.not (.call k__law_is (.cons (.call k_is_pool (.cons (.var 8) .nil)) (.cons (.call k__law_due_pool (.cons (.var 8) .nil)) .nil)))) (.cons (.not (.call k__law_is (.cons (.callk k_is_pool (.cons (.var 8) .nil) [0]) (.cons (.call k__law_due_pool (.cons (.var 8) .nil)) .nil)))) .nil))) (.cons (.rtn (.con (.bool false))) .nil) .nil) .nil)) (.cons (.ifs (.or (A__law_cases_right_x6 k__law_is k_is_lot k__law_due_lot k_is_case k_is_strength k_is_pool k__law_due_pool k__law_due_case k__law_near_cases k__law_drawn_cases)) (.cons (.rtn (.con (.bool false))) .nil) .nil) (A__law_cases_right_x5 k__law_is k_is_lot k__law_due_lot k_is_case k_is_strength k_is_pool k__law_due_pool k__law_due_case k__law_near_cases k__law_drawn_cases)))
def A__law_cases_right_x8 (k__law_is : Nat) (k_is_lot : Nat) (k__law_due_lot : Nat) (k_is_case : Nat) (k_is_strength : Nat) (k_is_pool : Nat) (k__law_due_pool : Nat) (k__law_due_case : Nat) (k__law_near_cases : Nat) (k__law_drawn_cases : Nat) : Sms := (.cons (.asg (.nm 7) (.bin .add (.bin .add (.var 7) (.lc (.lst (.cons (.var 8) .nil)) (.nm 8) (.val (.var 4)) .nil [8])) (.lc (.bin .add (.var 1) (.lst (.cons (.var 8) .nil))) (.nm 8) (.val (.var 4)) .nil [8]))) (.cons (.asg (.nm 7) (.bin .add (.var 7) (.lst (.cons (.bin .mul (.slt (.var 1) (.con (.int 1))) (.con (.int 13))) (.cons (.bin .mul (.var 1) (.con (.int 4))) .nil))))) (A__law_cases_right_x7 k__law_is k_is_lot k__law_due_lot k_is_case k_is_strength k_is_pool k__law_due_pool k__law_due_case k__law_near_cases k__law_drawn_cases)))
def A__law_cases_right_x9 (k__law_is : Nat) (k_is_lot : Nat) (k__law_due_lot : Nat) (k_is_case : Nat) (k_is_strength : Nat) (k_is_pool : Nat) (k__law_due_pool : Nat) (k__law_due_case : Nat) (k__law_near_cases : Nat) (k__law_drawn_cases : Nat) : Exs := (.cons (.bin .add (.var 1) (.slt (.var 1) (.con (.int 1)))) (.cons (.bin .add (.var 1) (.lst (.cons (.var 6) .nil))) (.cons (.bin .add (.lst (.cons (.var 6) .nil)) (.var 1)) (.cons (.lst (.cons (.var 6) .nil)) (.cons (.b1 .tuple (.var 1)) (.cons (.con .none) (.cons (.dd .nil) (.cons (.lst (.cons (.var 1) .nil)) (.cons (.tup (.cons (.lst .nil) (.cons (.lst .nil) .nil))) (.cons (.con (.str "")) (.cons (.ix (.var 1) (.con (.int 0))) .nil)))))))))))
def A__law_cases_right_x10 (k__law_is : Nat) (k_is_lot : Nat) (k__law_due_lot : Nat) (k_is_case : Nat) (k_is_strength : Nat) (k_is_pool : Nat) (k__law_due_pool : Nat) (k__law_due_case : Nat) (k__law_near_cases : Nat) (k__law_drawn_cases : Nat) : Sms := (.cons (.asg (.nm 6) (.tup (.cons (.ix (.ix (.var 1) (.con (.int 1))) (.con (.int 0))) (.cons (.bin .add (.ix (.ix (.var 1) (.con (.int 1))) (.con (.int 1))) (.slt (.ix (.ix (.ix (.var 1) (.con (.int 1))) (.con (.int 0))) (.con (.int 0))) (.con (.int 1)))) .nil)))) (.cons (.asg (.nm 7) (.lst (.cons (.lst .nil) (.cons (.var 1) (A__law_cases_right_x9 k__law_is k_is_lot k__law_due_lot k_is_case k_is_strength k_is_pool k__law_due_pool k__law_due_case k__law_near_cases k__law_drawn_cases))))) (A__law_cases_right_x8 k__law_is k_is_lot k__law_due_lot k_is_case k_is_strength k_is_pool k__law_due_pool k__law_due_case k__law_near_cases k__law_drawn_cases)))
def A__law_cases_right_x11 (k__law_is : Nat) (k_is_lot : Nat) (k__law_due_lot : Nat) (k_is_case : Nat) (k_is_strength : Nat) (k_is_pool : Nat) (k__law_due_pool : Nat) (k__law_due_case : Nat) (k__law_near_cases : Nat) (k__law_drawn_cases : Nat) : Sms := (.cons (.ifs (.cmp .ne (.lc (.var 8) (.nm 8) (.val (.var 4)) (.cons (.not (.call k__law_is (.cons (.call k_is_case (.cons (.var 8) .nil)) (.cons (.call k__law_due_case (.cons (.var 8) .nil)) .nil)))) .nil) [8]) (.lst .nil)) (.cons (.rtn (.con (.bool false))) .nil) .nil) (A__law_cases_right_x10 k__law_is k_is_lot k__law_due_lot k_is_case k_is_strength k_is_pool k__law_due_pool k__law_due_case k__law_near_cases k__law_drawn_cases))
def A__law_cases_right_x12 (k__law_is : Nat) (k_is_lot : Nat) (k__law_due_lot : Nat) (k_is_case : Nat) (k_is_strength : Nat) (k_is_pool : Nat) (k__law_due_pool : Nat) (k__law_due_case : Nat) (k__law_near_cases : Nat) (k__law_drawn_cases : Nat) : Sms := (.cons (.asg (.tp [1, 2, 3]) (.call k__law_drawn_cases (.cons (.var 0) (.cons (.con (.int 4)) (.cons (.con (.int 4)) (.cons (.tup (.cons (.con (.int 2)) (.cons (.con (.int 2)) .nil))) .nil)))))) (.cons (.asg (.nm 4) (.call k__law_near_cases (.cons (.ix (.var 1) (.con (.int 0))) .nil))) (.cons (.asg (.nm 5) (.b1 .repr (.lst (.cons (.var 1) (.cons (.var 4) .nil))))) (A__law_cases_right_x11 k__law_is k_is_lot k__law_due_lot k_is_case k_is_strength k_is_pool k__law_due_pool k__law_due_case k__law_near_cases k__law_drawn_cases))))
def A__law_cases_right (k__law_is : Nat) (k_is_lot : Nat) (k__law_due_lot : Nat) (k_is_case : Nat) (k_is_strength : Nat) (k_is_pool : Nat) (k__law_due_pool : Nat) (k__law_due_case : Nat) (k__law_near_cases : Nat) (k__law_drawn_cases : Nat) : Fn := ⟨1, 10, (A__law_cases_right_x12 k__law_is k_is_lot k__law_due_lot k_is_case k_is_strength k_is_pool k__law_due_pool k__law_due_case k__law_near_cases k__law_drawn_cases), false⟩
def A__law_strengths_right_x1 (k__law_is : Nat) (k_is_strength : Nat) (k__law_due_strength : Nat) (k__law_random : Nat) : Exs := (.cons (.tup (.cons (.con (.str "1")) (.cons (.con (.int 2)) .nil))) (.cons (.tup (.cons (.con (.int 1)) (.cons (.con .none) .nil))) (.cons (.tup (.cons (.con (.int 1)) .nil)) (.cons (.tup (.cons (.con (.int 1)) (.cons (.con (.int 2)) (.cons (.con (.int 3)) .nil)))) (.cons (.lst (.cons (.con (.int 1)) (.cons (.con (.int 2)) .nil))) (.cons (.con .none) (.cons (.con (.int 3)) (.cons (.dd .nil) (.cons (.con (.str "")) .nil)))))))))
def A__law_strengths_right_x2 (k__law_is : Nat) (k_is_strength : Nat) (k__law_due_strength : Nat) (k__law_random : Nat) : Exs := (.cons (.tup (.cons (.bin .sub (.con (.int 0)) (.con (.int 1))) (.cons (.con (.int 2)) .nil))) (.cons (.tup (.cons (.con (.int 0)) (.cons (.bin .sub (.con (.int 0)) (.con (.int 1))) .nil))) (.cons (.tup (.cons (.con (.bool true)) (.cons (.con (.int 2)) .nil))) (.cons (.tup (.cons (.con (.int 1)) (.cons (.con (.bool true)) .nil))) (.cons (.tup (.cons (.con (.bool false)) (.cons (.con (.int 1)) .nil))) (A__law_strengths_right_x1 k__law_is k_is_strength k__law_due_strength k__law_random))))))
def A__law_strengths_right_x3 (k__law_is : Nat) (k_is_strength : Nat) (k__law_due_strength : Nat) (k__law_random : Nat) : Exs := (.cons (.tup (.cons (.con (.int 4)) (.cons (.con (.int 4)) .nil))) (.cons (.tup (.cons (.con (.int 3)) (.cons (.con (.int 2)) .nil))) (.cons (.tup (.cons (.con (.int 0)) (.cons (.con (.int 0)) .nil))) (.cons (.tup (.cons (.con (.int 0)) (.cons (.con (.int 4)) .nil))) (.cons (.tup (.cons (.con (.int 4)) (.cons (.con (.int 5)) .nil))) (A__law_strengths_right_x2 k__law_is k_is_strength k__law_due_strength k__law_random))))))
def A__law_strengths_right_x4 (k__law_is : Nat) (k_is_strength : Nat) (k__law_due_strength : Nat) (k__law_random : Nat) : Sms := (.cons (.asg (.nm 2) (.bin .add (.var 2) (.lst (.cons (.tup (.cons (.con (.int 3)) (.cons (.con (.int 3)) .nil))) (A__law_strengths_right_x3 k__law_is k_is_strength k__law_due_strength k__law_random))))) (.cons (.rtn (.cmp .eq (.lc (.var 5) (.nm 5) (.val (.var 2)) (.cons (.not (.call k__law_is (.cons (.call k_is_strength (.cons (.var 5) .nil)) (.cons (.call k__law_due_strength (.cons (.var 5) .nil)) .nil)))) .nil) [5]) (.lst .nil))) .nil))
def A__law_strengths_right_x5 (k__law_is : Nat) (k_is_strength : Nat) (k__law_due_strength : Nat) (k__law_random : Nat) : Sms := (.cons (.asg (.nm 2) (.bin .add (.bin .add (.lc (.tup (.cons (.var 6) (.cons (.ix (.var 1) (.con (.int 0))) .nil))) (.nm 6) (.val (.var 1)) .nil [6]) (.lc (.tup (.cons (.ix (.var 1) (.con (.int 0))) (.cons (.var 7) .nil))) (.nm 7) (.val (.var 1)) .nil [7])) (.lc (.tup (.cons (.ix (.var 1) (.var 4)) (.cons (.ix (.var 1) (.bin .add (.var 4) (.con (.int 1)))) .nil))) (.nm 4) (.rg1 (.con (.int 6))) .nil [4]))) (A__law_strengths_right_x4 k__law_is k_is_strength k__law_due_strength k__law_random))
def A__law_strengths_right (k__law_is : Nat) (k_is_strength : Nat) (k__law_due_strength : Nat) (k__law_random : Nat) : Fn := ⟨1, 8, (.cons (.asg (.nm 1) (.bin .add (.lc (.call k__law_random (.cons (.var 0) (.cons (.con (.int 6)) .nil))) (.nm 3) (.rg1 (.con (.int 6))) .nil [3]) (.lst (.cons (.call k__law_random (.cons (.var 0) (.cons (.bin .pow (.con (.int 10)) (.con (.int 30))) .nil))) .nil)))) (A__law_strengths_right_x5 k__law_is k_is_strength k__law_due_strength k__law_random)), false⟩
def A_lawV1 (k__law_cases_right : Nat) (k__law_generator : Nat) (k__law_strengths_right : Nat) : Fn := ⟨1, 2, (.cons (.for_ (.nm 1) (.rg1 (.con (.int 2))) (.cons (.ifs (.or (.cons (.not (.call k__law_cases_right (.cons (.call k__law_generator (.cons (.var 0) (.cons (.var 1) .nil))) .nil))) (.cons (.not (.call k__law_strengths_right (.cons (.call k__law_generator (.cons (.var 0) (.cons (.var 1) .nil))) .nil))) .nil))) (.cons (.rtn (.con (.bool false))) .nil) .nil) .nil)) (.cons (.rtn (.con (.bool true))) .nil)), false⟩
end Gd
end
section
set_option autoImplicit false
set_option linter.all false
set_option maxRecDepth 100000
set_option maxHeartbeats 1000000
/-! Qs0: cases, pools, lots, strengths, as the program tells them and as the law does. -/
namespace Gs
open PySem Mp Mp.Ww Gd
local macro_rules | `(tactic| ac_rfl) => `(tactic| ((repeat ((conv => whnf); first | refine XE.st _ ?_ | refine XD.st _ ?_ | refine XV.st _ ?_ | refine XA.st _ ?_ | refine XO.st _ ?_ | refine XI.st _ ?_ | refine XS.st _ ?_ | refine XSs.st _ ?_ | refine Bra.t rfl ?_ | refine Bra.f rfl ?_ | refine Opt.of rfl ?_ | refine Opt.of atI_z ?_ | refine Opt.of atI_o ?_ | refine Opt.glb (by with_reducible assumption) ?_ | refine cm_int ?_ | refine cm_is ?_ | refine cm_eq ?_ | refine cm_ne ?_ | refine cm_gen ?_ | refine look_of (cfg_gen (by assumption)) ?_ | refine look_of (cfg_loc rfl) ?_ | refine And.intro (by first | with_reducible assumption | exact rfl | exact Nat.le_of_ble_eq_true rfl | exact ⟨rfl, Nat.le_of_ble_eq_true rfl⟩ | decide | omega | (have hsz := szl; omega)) ?_ | rw [cfg_set (by assumption)] | rw [cfg_setloc] | rw [cfg_push])); (try (conv => whnf))))
variable {Γ : Nat → List Val → M Val} {gl : List PyData} {X : XT}
mutual
/-- plain and not large -/
def okD : PyData → Bool
  | .str x => decide (x.length ≤ 1000) && x.cps.toList.all fun c => decide (c < 128)
  | .list xs => decide (xs.length ≤ 1000) && okDs xs
  | .tuple xs => decide (xs.length ≤ 1000) && okDs xs
  | _ => true
def okDs : List PyData → Bool
  | [] => true
  | x :: xs => okD x && okDs xs
end
theorem okDs_all : ∀ {xs : List PyData}, okDs xs = true ↔ ∀ x ∈ xs, okD x = true
  | [] => by simp [okDs]
  | x :: xs => by rw [okDs, Bool.and_eq_true, okDs_all]; simp
theorem ok_tuple {xs : List PyData} (h : okD (.tuple xs) = true) : xs.length ≤ 1000 ∧ ∀ x ∈ xs, okD x = true := by
  rw [okD, Bool.and_eq_true, decide_eq_true_eq, okDs_all] at h
  exact h
theorem ok_list {xs : List PyData} (h : okD (.list xs) = true) : xs.length ≤ 1000 ∧ ∀ x ∈ xs, okD x = true := by
  rw [okD, Bool.and_eq_true, decide_eq_true_eq, okDs_all] at h
  exact h
theorem ok_str {x : Str} (h : okD (.str x) = true) : x.length ≤ 1000 ∧ Low x := by
  rw [okD, Bool.and_eq_true, decide_eq_true_eq] at h
  exact ⟨h.1, low_lit h.2⟩
mutual
theorem ok_fit : ∀ v : PyData, okD v = true → fitD v = true
  | .str x, h => by
    have := (ok_str h).1
    rw [fitD, szl]
    simp
    omega
  | .list xs, h => by
    have := (ok_list h).1
    rw [okD, Bool.and_eq_true] at h
    rw [fitD, ok_fits xs h.2, szl]
    simp
    omega
  | .tuple xs, h => by
    have := (ok_tuple h).1
    rw [okD, Bool.and_eq_true] at h
    rw [fitD, ok_fits xs h.2, szl]
    simp
    omega
  | .none, _ => rfl
  | .bool _, _ => rfl
  | .int _, _ => rfl
  | .dict _, _ => rfl
theorem ok_fits : ∀ xs : List PyData, okDs xs = true → fitDs xs = true
  | [], _ => rfl
  | x :: xs, h => by
    rw [okDs, Bool.and_eq_true] at h
    rw [fitDs, ok_fit x h.1, ok_fits xs h.2]
    rfl
end
/-! ### counts, strengths -/
def countB (v : PyData) : Bool := match v with
  | .int i => !decide (i < 0)
  | _ => false
def CountS (F : List Val → M Val) : Prop := ∀ (v : PyData) (S : Store), F [.d v] S = .ok (.d (.bool (countB v))) S
theorem count_ok : CountS (A_is_count.run Γ gl) := by
  intro v S
  refine Wp.eq (Wp.run rfl ?_)
  cases v with
  | int i =>
    ac_rfl
    refine Bra.both (fun e => ?_) fun e => ?_
    · ac_rfl
      exact bool_end e.symm
    · ac_rfl
      exact bool_end e.symm
  | _ =>
    ac_rfl
    exact List.take_length
theorem duecount_ok : CountS (A__law_due_count.run Γ gl) := count_ok
def strengthB (v : PyData) : Bool := match v with
  | .tuple [.int p, .int q] => !decide (p < 0) && (!decide (q < 0) && (!decide (3 < p) && !decide (q < p)))
  | _ => false
def StrengthS (F : List Val → M Val) : Prop := ∀ (v : PyData) (S : Store), F [.d v] S = .ok (.d (.bool (strengthB v))) S
theorem strength_no {xs : List PyData} (h : xs.length ≠ 2) : strengthB (.tuple xs) = false := by
  cases q : strengthB (.tuple xs) with
  | false => rfl
  | true =>
    unfold strengthB at q
    split at q
    · rename_i e
      cases e
      exact absurd rfl h
    · cases q
theorem count_int {v : PyData} (h : countB v = true) : ∃ i : Int, v = .int i ∧ decide (i < 0) = false := by
  cases v with
  | int i => exact ⟨i, rfl, by simpa [countB] using h⟩
  | _ => cases h
theorem strength_no1 {x y : PyData} (h : countB x = false) : strengthB (.tuple [x, y]) = false := by
  cases x with
  | int i =>
    cases y with
    | int j =>
      show (!decide (i < 0) && _) = false
      have h : (!decide (i < 0)) = false := h
      rw [h]
      rfl
    | _ => rfl
  | _ => rfl
theorem strength_no2 {x y : PyData} (h : countB y = false) : strengthB (.tuple [x, y]) = false := by
  cases x with
  | int i =>
    cases y with
    | int j =>
      show (!decide (i < 0) && (!decide (j < 0) && _)) = false
      have h : (!decide (j < 0)) = false := h
      rw [h]
      simp
    | _ => rfl
  | _ => cases y <;> rfl
theorem strength_ok {kc : Nat} (count : CountS (Γ kc)) : StrengthS ((A_is_strength kc).run Γ gl) := by
  intro v S
  refine Wp.eq (Wp.run rfl ?_)
  cases v with
  | tuple xs =>
    ac_rfl
    by_cases h2 : xs.length = 2
    · match xs, h2 with
      | [x, y], _ =>
        ac_rfl
        refine Wp.of (count x S) ?_
        ac_rfl
        refine Bra.both (fun e => ?_) fun e => ?_
        · rw [Bool.not_eq_true'] at e
          ac_rfl
          exact bool_end (strength_no1 e).symm
        · rw [Bool.not_eq_false'] at e
          ac_rfl
          refine Wp.of (count y S) ?_
          ac_rfl
          refine Bra.both (fun e2 => ?_) fun e2 => ?_
          · rw [Bool.not_eq_true'] at e2
            ac_rfl
            exact bool_end (strength_no2 e2).symm
          · rw [Bool.not_eq_false'] at e2
            obtain ⟨p, rfl, hp⟩ := count_int e
            obtain ⟨q, rfl, hq⟩ := count_int e2
            ac_rfl
            refine Bra.both (fun e3 => ?_) fun e3 => ?_
            · ac_rfl
              refine Bra.both (fun e4 => ?_) fun e4 => ?_
              · ac_rfl
                refine bool_end ?_
                show _ = (!decide (p < 0) && (!decide (q < 0) && (!decide (3 < p) && !decide (q < p))))
                rw [hp, hq, e3, e4]
                rfl
              · ac_rfl
                refine bool_end ?_
                show _ = (!decide (p < 0) && (!decide (q < 0) && (!decide (3 < p) && !decide (q < p))))
                rw [hp, hq, e3, e4]
                rfl
            · ac_rfl
              refine bool_end ?_
              show _ = (!decide (p < 0) && (!decide (q < 0) && (!decide (3 < p) && !decide (q < p))))
              rw [hp, hq, e3]
              rfl
    · refine Bra.t (by simp; omega) ?_
      ac_rfl
      exact bool_end (strength_no h2).symm
  | _ =>
    ac_rfl
    exact List.take_length
theorem duestrength_ok {kc : Nat} (count : CountS (Γ kc)) : StrengthS ((A__law_due_strength kc).run Γ gl) := strength_ok count
end Gs
end
section
set_option autoImplicit false
set_option linter.all false
set_option maxRecDepth 100000
set_option maxHeartbeats 1000000
/-! Qs1: cases, pools, lots. -/
namespace Gs
open PySem Mp Mp.Ww Gd
local macro_rules | `(tactic| ac_rfl) => `(tactic| ((repeat ((conv => whnf); first | refine XE.st _ ?_ | refine XD.st _ ?_ | refine XV.st _ ?_ | refine XA.st _ ?_ | refine XO.st _ ?_ | refine XI.st _ ?_ | refine XS.st _ ?_ | refine XSs.st _ ?_ | refine Bra.t rfl ?_ | refine Bra.f rfl ?_ | refine Opt.of rfl ?_ | refine Opt.of atI_z ?_ | refine Opt.of atI_o ?_ | refine Opt.glb (by with_reducible assumption) ?_ | refine cm_int ?_ | refine cm_is ?_ | refine cm_eq ?_ | refine cm_ne ?_ | refine cm_gen ?_ | refine look_of (cfg_gen (by assumption)) ?_ | refine look_of (cfg_loc rfl) ?_ | refine And.intro (by first | with_reducible assumption | exact rfl | exact Nat.le_of_ble_eq_true rfl | exact ⟨rfl, Nat.le_of_ble_eq_true rfl⟩ | decide | omega | (have hsz := szl; omega)) ?_ | rw [cfg_set (by assumption)] | rw [cfg_setloc] | rw [cfg_push])); (try (conv => whnf))))
variable {Γ : Nat → List Val → M Val} {gl : List PyData} {X : XT}
/-- a world's things -/
def thingsOf (w : PyData) : List Str := match w with
  | .tuple [.list xs, .list _] => xs.map unStr
  | _ => []
def markB (ts : List Str) (y : PyData) : Bool := match y with
  | .str s => decide (s ∈ ts)
  | _ => false
def caseB (v : PyData) : Bool := match v with
  | .tuple [w, .list ms] => worldB w && (decide (ms.length ≤ 3) && ms.all (markB (thingsOf w)))
  | _ => false
def CasePS (F : List Val → M Val) : Prop := ∀ (v : PyData) (S : Store), okD v = true → F [.d v] S = .ok (.d (.bool (caseB v))) S
theorem world_shape {w : PyData} (h : worldB w = true) : ∃ (ts : List Str) (fs : List PyData), w = .tuple [.list (sD ts), .list fs] ∧ (1 ≤ ts.length ∧ ts.length ≤ 8) ∧ (∀ t ∈ ts, nameB t = true) := by
  unfold worldB at h
  split at h
  · rw [Bool.and_eq_true] at h
    obtain ⟨ts, rfl, hl, hn, _⟩ := things_strs h.1
    exact ⟨ts, _, rfl, hl, hn⟩
  · cases h
theorem case_no {xs : List PyData} (h : xs.length ≠ 2) : caseB (.tuple xs) = false := by
  cases q : caseB (.tuple xs) with
  | false => rfl
  | true =>
    unfold caseB at q
    split at q
    · rename_i e
      cases e
      exact absurd rfl h
    · cases q
theorem case_no1 {x y : PyData} (h : worldB x = false) : caseB (.tuple [x, y]) = false := by
  cases y with
  | list ms =>
    show (worldB x && _) = false
    rw [h]
    rfl
  | _ => rfl
theorem isnot_b {a b : Bool} {K : Bool → Prop} (k : K (!(a == b))) : PuB (cmpD .isnot (.bool a) (.bool b)) K := PuB.of (fun S => rfl) k
/-- the marks' turn, in both defs -/
theorem mark_turn {ts : List Str} {S : Store} {fs y : PyData} {ms : List PyData} (hn : ∀ t ∈ ts, nameB t = true) (hy : okD y = true) :
    Wp (lcB Γ gl (.var 1) (.nm 1) (.cons (.or (.cons (.not (.isi (.var 1) .tstr)) (.cons (.cmp .notin (.var 1) (.ix (.ix (.var 0) (.con (.int 0))) (.con (.int 0)))) .nil))) .nil) [1] [some (.d (.tuple [.tuple [.list (sD ts), fs], .list ms])), none] (.d y)) (fun o T => o = (if (!markB ts y) = true then some y else none) ∧ T = S) nx S := by
  refine Wp.lcB ?_
  cases y with
  | str s =>
    have hs := lay_low (ok_str hy).2
    ac_rfl
    refine notin_strs hs (fun u hu => name_lay (hn u hu)) ?_
    ac_rfl
    refine Bra.both (fun e => ?_) fun e => ?_
    · ac_rfl
      refine ⟨?_, rfl⟩
      show _ = if (!decide (s ∈ ts)) = true then _ else _
      rw [if_pos e]
    · ac_rfl
      refine ⟨?_, rfl⟩
      show _ = if (!decide (s ∈ ts)) = true then _ else _
      rw [e]
      rfl
  | _ => ac_rfl
theorem iscase_ok {kw : Nat} (world : WorldPS (Γ kw)) : CasePS ((A_is_case kw).run Γ gl) := by
  intro v S hv
  refine Wp.eq (Wp.run rfl ?_)
  cases v with
  | tuple xs =>
    obtain ⟨hl, hx⟩ := ok_tuple hv
    ac_rfl
    by_cases h2 : xs.length = 2
    · match xs, h2 with
      | [x, y], _ =>
        ac_rfl
        refine Wp.of (world x S (ok_fit _ (hx x (by simp)))) ?_
        ac_rfl
        refine Bra.both (fun e => ?_) fun e => ?_
        · rw [Bool.not_eq_true'] at e
          ac_rfl
          exact bool_end (case_no1 e).symm
        · rw [Bool.not_eq_false'] at e
          cases y with
          | list ms =>
            obtain ⟨ts, fs, rfl, hts, htn⟩ := world_shape e
            obtain ⟨hml, hmx⟩ := ok_list (hx (.list ms) (by simp))
            have ec : caseB (.tuple [.tuple [.list (sD ts), .list fs], .list ms]) = (decide (ms.length ≤ 3) && ms.all (markB ts)) := by
              show (worldB _ && (decide (ms.length ≤ 3) && ms.all (markB ((sD ts).map unStr)))) = _
              rw [e, unStr_strs]
              rfl
            have hsz := szl
            ac_rfl
            by_cases h3 : ms.length ≤ 3
            · refine Bra.f (by simp; omega) ?_
              ac_rfl
              refine Wp.lc_filter (fun y => !markB ts y) here_none (fun y hy => mark_turn htn (hmx y hy)) ?_
              have := List.length_filter_le (fun y => !markB ts y) ms
              refine ⟨by omega, ?_⟩
              ac_rfl
              refine eq_nil ?_
              ac_rfl
              refine bool_end ?_
              rw [ec, all_filter, decide_eq_true h3]
              rfl
            · refine Bra.t (by simp; omega) ?_
              ac_rfl
              refine bool_end ?_
              rw [ec, decide_eq_false h3]
              rfl
          | _ =>
            ac_rfl
            exact List.take_length
    · refine Bra.t (by simp; omega) ?_
      ac_rfl
      exact bool_end (case_no h2).symm
  | _ =>
    ac_rfl
    exact List.take_length
theorem duecase_ok {kw : Nat} (world : WorldPS (Γ kw)) : CasePS ((A__law_due_case kw).run Γ gl) := by
  intro v S hv
  refine Wp.eq (Wp.run rfl ?_)
  cases v with
  | tuple xs =>
    obtain ⟨hl, hx⟩ := ok_tuple hv
    ac_rfl
    by_cases h2 : xs.length = 2
    · match xs, h2 with
      | [x, y], _ =>
        ac_rfl
        refine Wp.of (world x S (ok_fit _ (hx x (by simp)))) ?_
        ac_rfl
        refine isnot_b ?_
        ac_rfl
        refine Bra.both (fun e => ?_) fun e => ?_
        · have e : worldB x = false := by
            cases q : worldB x with
            | false => rfl
            | true => rw [q] at e; cases e
          ac_rfl
          exact bool_end (case_no1 e).symm
        · have e : worldB x = true := by
            cases q : worldB x with
            | true => rfl
            | false => rw [q] at e; cases e
          cases y with
          | list ms =>
            obtain ⟨ts, fs, rfl, hts, htn⟩ := world_shape e
            obtain ⟨hml, hmx⟩ := ok_list (hx (.list ms) (by simp))
            have ec : caseB (.tuple [.tuple [.list (sD ts), .list fs], .list ms]) = (decide (ms.length ≤ 3) && ms.all (markB ts)) := by
              show (worldB _ && (decide (ms.length ≤ 3) && ms.all (markB ((sD ts).map unStr)))) = _
              rw [e, unStr_strs]
              rfl
            have hsz := szl
            ac_rfl
            by_cases h3 : ms.length ≤ 3
            · refine Bra.f (by simp; omega) ?_
              ac_rfl
              refine Wp.lc_filter (fun y => !markB ts y) here_none (fun y hy => mark_turn htn (hmx y hy)) ?_
              have := List.length_filter_le (fun y => !markB ts y) ms
              refine ⟨by omega, ?_⟩
              ac_rfl
              refine eq_nil ?_
              ac_rfl
              refine bool_end ?_
              rw [ec, all_filter, decide_eq_true h3]
              rfl
            · refine Bra.t (by simp; omega) ?_
              ac_rfl
              refine bool_end ?_
              rw [ec, decide_eq_false h3]
              rfl
          | _ =>
            ac_rfl
            exact List.take_length
    · refine Bra.t (by simp; omega) ?_
      ac_rfl
      exact bool_end (case_no h2).symm
  | _ =>
    ac_rfl
    exact List.take_length
/-! ### pools, lots -/
def marksLen (c : PyData) : Nat := match c with
  | .tuple [_, .list ms] => ms.length
  | _ => 0
def poolB (v : PyData) : Bool := match v with
  | .list cs => cs.all caseB && cs.all fun c => decide (marksLen c = marksLen (cs.headD .none))
  | _ => false
def PoolS (F : List Val → M Val) : Prop := ∀ (v : PyData) (S : Store), okD v = true → F [.d v] S = .ok (.d (.bool (poolB v))) S
theorem case_shape {c : PyData} (h : caseB c = true) : ∃ w ms, c = .tuple [w, .list ms] := by
  unfold caseB at h
  split at h
  · exact ⟨_, _, rfl⟩
  · cases h
theorem pool_ok {kc : Nat} (case : CasePS (Γ kc)) : PoolS ((A_is_pool kc).run Γ gl) := by
  intro v S hv
  refine Wp.eq (Wp.run rfl ?_)
  cases v with
  | list cs =>
    obtain ⟨hl, hx⟩ := ok_list hv
    have hsz := szl
    ac_rfl
    refine Wp.lc_filter (fun c => !caseB c) here_none (fun c hc => ?_) ?_
    · refine Wp.lcB ?_
      ac_rfl
      refine Wp.of (case c S (hx c hc)) ?_
      ac_rfl
      refine Bra.both (fun e => ?_) fun e => ?_
      · ac_rfl
        exact ⟨by rw [if_pos e], rfl⟩
      · ac_rfl
        exact ⟨by rw [e]; rfl, rfl⟩
    · have := List.length_filter_le (fun c => !caseB c) cs
      refine ⟨by omega, ?_⟩
      ac_rfl
      refine eq_nil ?_
      ac_rfl
      rw [all_filter]
      refine Bra.both (fun e => ?_) fun e => ?_
      · rw [Bool.not_eq_true'] at e
        ac_rfl
        refine bool_end ?_
        show _ = (cs.all caseB && _)
        rw [e]
        rfl
      · rw [Bool.not_eq_false'] at e
        have hc := List.all_eq_true.mp e
        ac_rfl
        refine Wp.lc_filter (fun c => !decide (marksLen c = marksLen (cs.headD .none))) here_none (fun c hm => ?_) ?_
        · obtain ⟨w, ms, rfl⟩ := case_shape (hc c hm)
          match cs, hm, hc with
          | c0 :: cr, hm, hc =>
            obtain ⟨w0, ms0, rfl⟩ := case_shape (hc c0 (List.mem_cons_self ..))
            refine Wp.lcB ?_
            ac_rfl
            have ed : decide ((ms.length : Int) = (ms0.length : Int)) = decide (marksLen (.tuple [w, .list ms]) = marksLen ((PyData.tuple [w0, .list ms0] :: cr).headD .none)) := by
              show decide ((ms.length : Int) = (ms0.length : Int)) = decide (ms.length = ms0.length)
              exact decide_eq_decide.mpr (by omega)
            rw [ed]
            refine Bra.both (fun e => ?_) fun e => ?_
            · ac_rfl
              exact ⟨by rw [if_pos e], rfl⟩
            · ac_rfl
              exact ⟨by rw [e]; rfl, rfl⟩
        · have := List.length_filter_le (fun c => !decide (marksLen c = marksLen (cs.headD .none))) cs
          refine ⟨by omega, ?_⟩
          ac_rfl
          refine eq_nil ?_
          ac_rfl
          refine bool_end ?_
          show _ = (cs.all caseB && cs.all fun c => decide (marksLen c = marksLen (cs.headD .none)))
          rw [all_filter, e]
          rfl
  | _ =>
    ac_rfl
    exact List.take_length
theorem duepool_ok {kc : Nat} (case : CasePS (Γ kc)) : PoolS ((A__law_due_pool kc).run Γ gl) := pool_ok case
def lotB (v : PyData) : Bool := match v with
  | .tuple [.list a, .list b] => poolB (.list (a ++ b))
  | _ => false
/-- a lot's two sides together are not large -/
def lotOk (v : PyData) : Prop := okD v = true ∧ ∀ a b, v = .tuple [.list a, .list b] → a.length + b.length ≤ 1000
def LotS (F : List Val → M Val) : Prop := ∀ (v : PyData) (S : Store), lotOk v → F [.d v] S = .ok (.d (.bool (lotB v))) S
theorem lot_no {xs : List PyData} (h : xs.length ≠ 2) : lotB (.tuple xs) = false := by
  cases q : lotB (.tuple xs) with
  | false => rfl
  | true =>
    unfold lotB at q
    split at q
    · rename_i e
      cases e
      exact absurd rfl h
    · cases q
theorem lot_end {kp : Nat} (pool : PoolS (Γ kp)) {a b : List PyData} {S : Store} (hv : lotOk (.tuple [.list a, .list b])) : (a ++ b).length ≤ sizeLine ∧ Γ kp [.d (.list (a ++ b))] S = .ok (.d (.bool (lotB (.tuple [.list a, .list b])))) S := by
  obtain ⟨h1, h2⟩ := hv
  have hl := h2 a b rfl
  obtain ⟨_, hx⟩ := ok_tuple h1
  obtain ⟨_, ha⟩ := ok_list (hx (.list a) (by simp))
  obtain ⟨_, hb⟩ := ok_list (hx (.list b) (by simp))
  refine ⟨by rw [List.length_append, szl]; omega, pool _ S ?_⟩
  rw [okD, Bool.and_eq_true, decide_eq_true_eq, okDs_all]
  refine ⟨by rw [List.length_append]; exact hl, fun x hx => ?_⟩
  rcases List.mem_append.mp hx with q | q
  · exact ha x q
  · exact hb x q
theorem lot_ok {kp : Nat} (pool : PoolS (Γ kp)) : LotS ((A_is_lot kp).run Γ gl) := by
  intro v S hv
  refine Wp.eq (Wp.run rfl ?_)
  cases v with
  | tuple xs =>
    ac_rfl
    by_cases h2 : xs.length = 2
    · match xs, h2 with
      | [x, y], _ =>
        cases x with
        | list a =>
          cases y with
          | list b =>
            obtain ⟨q1, q2⟩ := lot_end pool (S := S) hv
            ac_rfl
            refine Wp.of q2 ?_
            ac_rfl
            exact List.take_length
          | _ =>
            ac_rfl
            exact List.take_length
        | _ =>
          ac_rfl
          exact List.take_length
    · refine Bra.t (by simp; omega) ?_
      ac_rfl
      exact bool_end (lot_no h2).symm
  | _ =>
    ac_rfl
    exact List.take_length
theorem duelot_ok {kp : Nat} (pool : PoolS (Γ kp)) : LotS ((A__law_due_lot kp).run Γ gl) := by
  intro v S hv
  refine Wp.eq (Wp.run rfl ?_)
  cases v with
  | tuple xs =>
    ac_rfl
    by_cases h2 : xs.length = 2
    · match xs, h2 with
      | [x, y], _ =>
        cases x with
        | list a =>
          cases y with
          | list b =>
            obtain ⟨q1, q2⟩ := lot_end pool (S := S) hv
            ac_rfl
            refine Wp.of q2 ?_
            ac_rfl
            exact List.take_length
          | _ =>
            ac_rfl
            exact List.take_length
        | _ =>
          ac_rfl
          exact List.take_length
    · refine Bra.t (by simp; omega) ?_
      ac_rfl
      exact bool_end (lot_no h2).symm
  | _ =>
    ac_rfl
    exact List.take_length
end Gs
end
section
set_option autoImplicit false
set_option linter.all false
set_option maxRecDepth 100000
set_option maxHeartbeats 1000000
/-! Qs2: drawn cases are cases; values near a case. -/
namespace Gs
open PySem Mp Mp.Ww Gd
local macro_rules | `(tactic| ac_rfl) => `(tactic| ((repeat ((conv => whnf); first | refine XE.st _ ?_ | refine XD.st _ ?_ | refine XV.st _ ?_ | refine XA.st _ ?_ | refine XO.st _ ?_ | refine XI.st _ ?_ | refine XS.st _ ?_ | refine XSs.st _ ?_ | refine Bra.t rfl ?_ | refine Bra.f rfl ?_ | refine Opt.of rfl ?_ | refine Opt.of atI_z ?_ | refine Opt.of atI_o ?_ | refine Opt.glb (by with_reducible assumption) ?_ | refine cm_int ?_ | refine cm_is ?_ | refine cm_eq ?_ | refine cm_ne ?_ | refine cm_gen ?_ | refine look_of (cfg_gen (by assumption)) ?_ | refine look_of (cfg_loc rfl) ?_ | refine And.intro (by first | with_reducible assumption | exact rfl | exact Nat.le_of_ble_eq_true rfl | exact ⟨rfl, Nat.le_of_ble_eq_true rfl⟩ | decide | omega | (have hsz := szl; omega)) ?_ | rw [cfg_set (by assumption)] | rw [cfg_setloc] | rw [cfg_push])); (try (conv => whnf))))
variable {Γ : Nat → List Val → M Val} {gl : List PyData} {X : XT}
/-! ### what is drawn is right -/
theorem up_of {α : Type} (f : α → PyData) {l : List α} (h : l.Pairwise fun a b => W.dataLt (f a) (f b) = true) : upD (l.map f) = true := by
  unfold upD
  rw [List.all_eq_true]
  intro i hi
  rw [List.mem_range, List.length_map] at hi
  have e1 : (l.map f).getD i .none = f (l[i]'(by omega)) := by
    rw [List.getD_eq_getElem?_getD, List.getElem?_map, List.getElem?_eq_getElem (by omega)]
    rfl
  have e2 : (l.map f).getD (i + 1) .none = f (l[i + 1]'(by omega)) := by
    rw [List.getD_eq_getElem?_getD, List.getElem?_map, List.getElem?_eq_getElem (by omega)]
    rfl
  rw [e1, e2]
  exact List.pairwise_iff_getElem.mp h i (i + 1) (by omega) (by omega) (by omega)
theorem names_all {ts : List Str} {f : Str} (h : ∀ t ∈ ts, spelled f t = true) : (sD ts).all (spelledD f) = true := by
  rw [List.all_map, List.all_eq_true]
  exact fun t ht => h t ht
theorem things_true {ts : List Str} (h : TsOk ts) : thingsB (.list (sD ts)) = true := by
  show (decide (1 ≤ (sD ts).length ∧ (sD ts).length ≤ 8) && ((sD ts).all (spelledD SMALL) && upD (sD ts))) = true
  have h1 := h.pos
  have h2 := h.four
  rw [decide_eq_true (by rw [List.length_map]; omega), names_all h.name, up_of PyData.str (h.asc.imp fun {a b} q => by rw [W.dataLt_str]; exact q)]
  rfl
theorem rels_name : ∀ rel ∈ RELS, ∀ p ∈ rel, nameB p.1 = true := by
  intro rel hr p hp
  have : (RELS.all fun rel => rel.all fun p => nameB p.1) = true := by decide +kernel
  exact List.all_eq_true.mp (List.all_eq_true.mp this rel hr) p hp
theorem told_true {rel : List (Str × Nat)} (hr : rel ∈ RELS) {ts f : List Str} (ht : TsOk ts) (h : FactOf rel ts f) : toldB ts (factD f) = true := by
  obtain ⟨w, r, p, rfl, hm, hl, hr'⟩ := h
  have h3 := rels_le rel hr _ hm
  simp only at h3
  have hw := rels_name rel hr _ hm
  show (factB (factD (w :: r)) && (spelledD SMALL (.str w) && (sD r).all fun y => decide (unStr y ∈ ts))) = true
  have e1 : factB (factD (w :: r)) = true := by
    show (decide ((sD r).length < 4) && ((spelledD SMALL (.str w) || spelledD CAPITAL (.str w)) && (sD r).all (spelledD SMALL))) = true
    rw [decide_eq_true (by rw [List.length_map]; omega), names_all fun t h => ht.name t (hr' t h), show spelledD SMALL (.str w) = true from hw]
    rfl
  have e2 : ((sD r).all fun y => decide (unStr y ∈ ts)) = true := by
    rw [List.all_map, List.all_eq_true]
    exact fun t h => decide_eq_true (hr' t h)
  rw [e1, e2, show spelledD SMALL (.str w) = true from hw]
  rfl
theorem world_true {rel : List (Str × Nat)} (hr : rel ∈ RELS) {ts : List Str} {gs : List (List Str)} (ht : TsOk ts) (ha : Asc gs) (hf : ∀ f ∈ gs, FactOf rel ts f) : worldB (worldD ts gs) = true := by
  show (thingsB (.list (sD ts)) && ((gs.map factD).all (toldB ((sD ts).map unStr)) && upD (gs.map factD))) = true
  have e : ((gs.map factD).all (toldB ts)) = true := by
    rw [List.all_map, List.all_eq_true]
    exact fun f h => told_true hr ht (hf f h)
  rw [unStr_strs, things_true ht, e, up_of factD ha]
  rfl
theorem case_true {rel : List (Str × Nat)} (hr : rel ∈ RELS) {m : Nat} {x : PyData} {ts : List Str} {gs : List (List Str)} {ms : List Str} (C : CaseN rel m x ts gs ms) (hm : m ≤ 3) : caseB x = true := by
  rw [C.eq]
  show (worldB (worldD ts gs) && (decide ((sD ms).length ≤ 3) && (sD ms).all (markB (thingsOf (worldD ts gs))))) = true
  have hl := C.len
  have e : ((sD ms).all (markB (thingsOf (worldD ts gs)))) = true := by
    rw [List.all_map, List.all_eq_true]
    intro t ht
    show decide (t ∈ (sD ts).map unStr) = true
    rw [unStr_strs]
    exact decide_eq_true (C.mem t ht)
  rw [world_true hr C.things C.asc C.of, e, decide_eq_true (by rw [List.length_map]; omega)]
  rfl
/-! ### plain and small -/
structure Nr (k n : Nat) (d : PyData) : Prop where
  sm : Sm k n d
  ok : okD d = true
theorem Nr.le {k n k' n' : Nat} {d : PyData} (h : Nr k n d) (hk : k ≤ k') (hn : n ≤ n') : Nr k' n' d := ⟨h.sm.le hk hn, h.ok⟩
theorem Nr.list {k n m : Nat} {xs : List PyData} (h : ∀ y ∈ xs, Nr k n y) (hl : xs.length ≤ m) (hm : m ≤ 1000) : Nr (k + 1) ((n + 2) * m + 2) (.list xs) :=
  ⟨Sm.list (fun y hy => (h y hy).sm) hl (by omega), by rw [okD, Bool.and_eq_true, decide_eq_true_eq, okDs_all]; exact ⟨by omega, fun y hy => (h y hy).ok⟩⟩
theorem Nr.tup {k n m : Nat} {xs : List PyData} (h : ∀ y ∈ xs, Nr k n y) (hl : xs.length ≤ m) (hm : m ≤ 1000) : Nr (k + 1) ((n + 2) * m + 3) (.tuple xs) :=
  ⟨Sm.tup (fun y hy => (h y hy).sm) hl (by omega), by rw [okD, Bool.and_eq_true, decide_eq_true_eq, okDs_all]; exact ⟨by omega, fun y hy => (h y hy).ok⟩⟩
theorem Nr.str {x : Str} {m : Nat} (hl : Low x) (h : x.length ≤ m) (hm : m ≤ 1000) : Nr 0 (10 * m + 2) (.str x) :=
  ⟨Sm.str hl h hm, by
    rw [okD, Bool.and_eq_true, decide_eq_true_eq]
    exact ⟨by omega, List.all_eq_true.mpr fun c hc => decide_eq_true (hl c hc)⟩⟩
/-- items, parts of worlds, worlds, cases (or what stands in their places) -/
abbrev It1 (d : PyData) : Prop := Nr 1 600 d
abbrev Pa (d : PyData) : Prop := Nr 2 36122 d
abbrev Wo (d : PyData) : Prop := Nr 3 108375 d
abbrev Ca (d : PyData) : Prop := Nr 4 325134 d
theorem it_str {x : Str} (h : Low x) (hl : x.length ≤ 10) : It1 (.str x) := (Nr.str h hl (by decide)).le (by decide) (by decide)
theorem pa_list {xs : List PyData} (h : ∀ x ∈ xs, It1 x) (hl : xs.length ≤ 60) : Pa (.list xs) := (Nr.list h hl (by decide)).le (by decide) (by decide)
theorem pa_tup {xs : List PyData} (h : ∀ x ∈ xs, It1 x) (hl : xs.length ≤ 59) : Pa (.tuple xs) := (Nr.tup h hl (by decide)).le (by decide) (by decide)
theorem wo2 {a b : PyData} (ha : Pa a) (hb : Pa b) : Wo (.tuple [a, b]) := (Nr.tup (m := 3) (fun y hy => by simp at hy; rcases hy with rfl | rfl <;> assumption) (by simp) (by decide)).le (by decide) (by decide)
theorem ca_tup {xs : List PyData} (h : ∀ x ∈ xs, Wo x) (hl : xs.length ≤ 3) : Ca (.tuple xs) := (Nr.tup h hl (by decide)).le (by decide) (by decide)
theorem ca_list {xs : List PyData} (h : ∀ x ∈ xs, Wo x) (hl : xs.length ≤ 3) : Ca (.list xs) := (Nr.list h hl (by decide)).le (by decide) (by decide)
theorem pa_wo {d : PyData} (h : Pa d) : Wo d := h.le (by decide) (by decide)
theorem it_none : It1 .none := ⟨⟨rfl, by decide, by decide, rfl, low_lit (by decide +kernel)⟩, rfl⟩
end Gs
end
section
set_option autoImplicit false
set_option linter.all false
set_option maxRecDepth 100000
set_option maxHeartbeats 1000000
/-! Qs3: values near a case. -/
namespace Gs
open PySem Mp Mp.Ww Gd
local macro_rules | `(tactic| ac_rfl) => `(tactic| ((repeat ((conv => whnf); first | refine XE.st _ ?_ | refine XD.st _ ?_ | refine XV.st _ ?_ | refine XA.st _ ?_ | refine XO.st _ ?_ | refine XI.st _ ?_ | refine XS.st _ ?_ | refine XSs.st _ ?_ | refine Bra.t rfl ?_ | refine Bra.f rfl ?_ | refine Opt.of rfl ?_ | refine Opt.of atI_z ?_ | refine Opt.of atI_o ?_ | refine Opt.glb (by with_reducible assumption) ?_ | refine cm_int ?_ | refine cm_is ?_ | refine cm_eq ?_ | refine cm_ne ?_ | refine cm_gen ?_ | refine look_of (cfg_gen (by assumption)) ?_ | refine look_of (cfg_loc rfl) ?_ | refine And.intro (by first | with_reducible assumption | exact rfl | exact Nat.le_of_ble_eq_true rfl | exact ⟨rfl, Nat.le_of_ble_eq_true rfl⟩ | decide | omega | (have hsz := szl; omega)) ?_ | rw [cfg_set (by assumption)] | rw [cfg_setloc] | rw [cfg_push])); (try (conv => whnf))))
variable {Γ : Nat → List Val → M Val} {gl : List PyData} {X : XT}
theorem cut_len' (xs : List PyData) (lo hi : Option Int) : (cutD xs lo hi).length ≤ xs.length := by
  unfold cutD
  rw [List.length_take, List.length_drop]
  omega
theorem cut_mem' {xs : List PyData} {lo hi : Option Int} {x : PyData} (h : x ∈ cutD xs lo hi) : x ∈ xs := by
  unfold cutD at h
  exact List.mem_of_mem_drop (List.mem_of_mem_take h)
theorem mul_list' {xs : List PyData} {k : Int} {K : PyData → Prop} (h : 0 ≤ k ∧ k < 1000) (hl : xs.length ≤ 1000) (q : K (.list (List.replicate k.toNat xs).flatten)) : Pu (binD .mul (.list xs) (.int k)) K := by
  refine Pu.of (fun S => ?_) q
  show bnd (guard (decide (-(2 ^ 63) ≤ k ∧ k < 2 ^ 63 ∧ xs.length * k.toNat ≤ sizeLine))) (fun _ => ret (PyData.list (List.replicate k.toNat xs).flatten)) S = _
  have : xs.length * k.toNat ≤ 1000 * 1000 := Nat.mul_le_mul hl (by omega)
  rw [decide_eq_true ⟨by omega, by omega, by rw [szl]; omega⟩]
  rfl
theorem rep_mem {xs : List PyData} {n : Nat} {x : PyData} (h : x ∈ (List.replicate n xs).flatten) : x ∈ xs := by
  obtain ⟨l, hl, hx⟩ := List.mem_flatten.mp h
  rw [List.mem_replicate] at hl
  exact hl.2 ▸ hx
theorem low_names {ts : List Str} (h : TsOk ts) : ∀ t ∈ ts, Low t ∧ t.length ≤ 10 := fun t ht => ⟨spelled_low low_small (h.name t ht), by have := (spelled_len (h.name t ht)).2; omega⟩
theorem rels_low' : ∀ rel ∈ RELS, ∀ p ∈ rel, Low p.1 ∧ p.1.length ≤ 10 := fun rel hr p hp => ⟨spelled_low low_small (rels_name rel hr p hp), by have := (spelled_len (rels_name rel hr p hp)).2; omega⟩
theorem it_strs {ts : List Str} (h : ∀ t ∈ ts, Low t ∧ t.length ≤ 10) : ∀ x ∈ sD ts, It1 x := fun x hx => by
  obtain ⟨t, ht, rfl⟩ := List.mem_map.mp hx
  exact it_str (h t ht).1 (h t ht).2
theorem it_fact {f : List Str} (h : ∀ t ∈ f, Low t ∧ t.length ≤ 10) (hl : f.length ≤ 5) : It1 (factD f) := by
  refine (Nr.tup (k := 0) (n := 102) (m := 5) (fun y hy => ?_) (by rw [List.length_map]; exact hl) (by decide)).le (by decide) (by decide)
  obtain ⟨t, ht, rfl⟩ := List.mem_map.mp hy
  exact Nr.str (h t ht).1 (h t ht).2 (by decide)
theorem it_facts {rel : List (Str × Nat)} {ts : List Str} {gs : List (List Str)} (hr : rel ∈ RELS) (h : TsOk ts) (hf : ∀ f ∈ gs, FactOf rel ts f) : ∀ x ∈ gs.map factD, It1 x := by
  intro x hx
  obtain ⟨f, hf', rfl⟩ := List.mem_map.mp hx
  obtain ⟨w, r, p, rfl, hp, hl, hm⟩ := hf f hf'
  have h3 := rels_le rel hr _ hp
  simp only at h3
  refine it_fact (fun t ht => ?_) (by simp; omega)
  rcases List.mem_cons.mp ht with rfl | ht
  · exact rels_low' rel hr _ hp
  · exact low_names h t (hm t ht)
theorem pa_nil : Pa (.list []) := pa_list (by simp) (by decide)
/-- a drawn case and its parts -/
theorem ca_case {rel : List (Str × Nat)} (hr : rel ∈ RELS) {m : Nat} {x : PyData} {ts : List Str} {gs : List (List Str)} {ms : List Str} (C : CaseN rel m x ts gs ms) (hm : m ≤ 3) :
    Ca x ∧ Wo (worldD ts gs) ∧ Pa (.list (sD ts)) ∧ Pa (.list (sD ms)) ∧ ∀ t ∈ ms, Low t ∧ t.length ≤ 10 := by
  have lt := low_names C.things
  have h4 := C.things.four
  have hl := C.len
  have hg := C.flen
  have lm : ∀ t ∈ ms, Low t ∧ t.length ≤ 10 := fun t ht => lt t (C.mem t ht)
  have p1 : Pa (.list (sD ts)) := pa_list (it_strs lt) (by rw [List.length_map]; omega)
  have p2 : Pa (.list (gs.map factD)) := pa_list (it_facts hr C.things C.of) (by rw [List.length_map]; omega)
  have p3 : Pa (.list (sD ms)) := pa_list (it_strs lm) (by rw [List.length_map]; omega)
  have w : Wo (worldD ts gs) := wo2 p1 p2
  refine ⟨?_, w, p1, p3, lm⟩
  rw [C.eq]
  exact ca_tup (fun y hy => by
    simp at hy
    rcases hy with rfl | rfl
    · exact w
    · exact pa_wo p3) (by simp)
def NearS (F : List Val → M Val) : Prop := ∀ (rel : List (Str × Nat)) (m : Nat) (x : PyData) (ts : List Str) (gs : List (List Str)) (ms : List Str) (S : Store), rel ∈ RELS → m ≤ 3 → CaseN rel m x ts gs ms → ∃ l, F [.d x] S = .ok (.d (.list l)) S ∧ l.length = 24 ∧ ∀ y ∈ l, Ca y
theorem near_ok : NearS (A__law_near_cases.run Γ gl) := by
  intro rel m x ts gs ms S hr hm C
  obtain ⟨c0, w0, pt, pm, lm⟩ := ca_case hr C hm
  have lt := low_names C.things
  have h4 := C.things.four
  have hml := C.len
  have hpos := C.things.pos
  have hsz := szl
  rw [C.eq] at c0 ⊢
  match ts, lt, h4, hpos, w0, pt, c0 with
  | t0 :: tr, lt, h4, _, w0, pt, c0 =>
  have hcut : cutD (sD (t0 :: tr)) none (some 1) = [.str t0] := by rw [cut_to (by decide)]; rfl
  have key : Wp (A__law_near_cases.run Γ gl [.d (caseD (t0 :: tr) gs ms)]) (fun v T => ∃ l, v = Val.d (.list l) ∧ T = S ∧ l.length = 24 ∧ ∀ y ∈ l, Ca y) nx S := by
    refine Wp.run rfl ?_
    refine XSs.step (e := [some (.d (caseD (t0 :: tr) gs ms)), some (.d (worldD (t0 :: tr) gs)), some (.d (.list (sD ms))), none, none]) (S' := S) ?_ ?_
    · ac_rfl
    refine XSs.step (e := [some (.d (caseD (t0 :: tr) gs ms)), some (.d (worldD (t0 :: tr) gs)), some (.d (.list (sD ms))), some (.d (.list (sD (t0 :: tr)))), none]) (S' := S) ?_ ?_
    · ac_rfl
    have t1 := lt t0 (List.mem_cons_self ..)
    have pr : ∀ n : Nat, n ≤ 60 → Pa (.list (List.replicate n [PyData.str t0]).flatten) := fun n hn => pa_list (fun y hy => by
      have := rep_mem hy
      simp at this
      exact this ▸ it_str t1.1 t1.2) (by simp; omega)
    refine XSs.stepJ (fun e T => ∃ l, e = [some (.d (caseD (t0 :: tr) gs ms)), some (.d (worldD (t0 :: tr) gs)), some (.d (.list (sD ms))), some (.d (.list (sD (t0 :: tr)))), some (.d (.list l))] ∧ T = S ∧ l.length = 8 ∧ ∀ y ∈ l, Ca y) ?_ ?_
    · ac_rfl
      rw [hcut]
      refine mul_list' (by decide) (by simp) ?_
      ac_rfl
      rw [hcut]
      refine mul_list' (by decide) (by simp) ?_
      ac_rfl
      refine ⟨_, rfl, rfl, rfl, fun y hy => ?_⟩
      have cw : ∀ {d : PyData}, Pa d → Ca (.tuple [worldD (t0 :: tr) gs, d]) := fun h => ca_tup (fun y hy => by
        simp at hy
        rcases hy with rfl | rfl
        · exact w0
        · exact pa_wo h) (by simp)
      simp only [List.mem_cons, List.not_mem_nil, or_false] at hy
      rcases hy with rfl | rfl | rfl | rfl | rfl | rfl | rfl | rfl
      · exact c0
      · exact cw pa_nil
      · exact cw (pr 3 (by decide))
      · exact cw (pr 4 (by decide))
      · exact cw (pa_list (fun z hz => it_strs lt z (cut_mem' hz)) (by have := cut_len' (sD (t0 :: tr)) none (some 3); rw [List.length_map] at this; omega))
      · exact cw pt
      · exact cw (pa_tup (it_strs lm) (by rw [List.length_map]; omega))
      · exact cw (it_none.le (by decide) (by decide))
    rintro e T ⟨l, rfl, hT, hl, hC⟩
    rw [hT]
    clear hT T
    have hms : (sD ms).length ≤ 3 := by rw [List.length_map]; omega
    have pw : ∀ {d : PyData}, Wo d → Ca (.tuple [d]) ∧ True := fun h => ⟨ca_tup (fun y hy => by simp at hy; exact hy ▸ h) (by simp), trivial⟩
    have cw2 : ∀ {a d : PyData}, Wo a → Wo d → Ca (.tuple [a, d]) := fun ha h => ca_tup (fun y hy => by
      simp at hy
      rcases hy with rfl | rfl <;> assumption) (by simp)
    refine XSs.stepJ (fun e T => ∃ l, e = [some (.d (caseD (t0 :: tr) gs ms)), some (.d (worldD (t0 :: tr) gs)), some (.d (.list (sD ms))), some (.d (.list (sD (t0 :: tr)))), some (.d (.list l))] ∧ T = S ∧ l.length = 17 ∧ ∀ y ∈ l, Ca y) ?_ ?_
    · ac_rfl
      refine ⟨by rw [List.length_append]; simp only [List.length_cons, List.length_nil]; omega, ?_⟩
      ac_rfl
      refine ⟨by rw [List.length_append, hl, szl]; simp, ?_⟩
      ac_rfl
      refine ⟨_, rfl, rfl, by rw [List.length_append, hl]; rfl, fun y hy => ?_⟩
      rcases List.mem_append.mp hy with hy | hy
      · exact hC y hy
      simp only [List.mem_cons, List.not_mem_nil, or_false] at hy
      rcases hy with rfl | rfl | rfl | rfl | rfl | rfl | rfl | rfl | rfl
      · exact cw2 w0 (pa_wo (pa_list (fun z hz => by
          rcases List.mem_append.mp hz with q | q
          · exact it_strs lm z q
          · simp at q
            exact q ▸ it_str (low_lit (by decide +kernel)) (by decide)) (by rw [List.length_append]; simp only [List.length_cons, List.length_nil]; omega)))
      · exact cw2 w0 (pa_wo (pa_list (fun z hz => by
          simp at hz
          exact hz ▸ ⟨⟨by decide, by decide, by decide +kernel, by decide +kernel, low_lit (by decide +kernel)⟩, rfl⟩) (by simp)))
      · exact cw2 w0 (pa_wo (pa_list (fun z hz => by
          simp at hz
          exact hz ▸ it_none) (by simp)))
      · exact cw2 w0 (((Nr.list (k := 2) (n := 36122) (m := 1) (fun z hz => by simp at hz; exact hz ▸ pt) (by simp) (by decide))).le (by decide) (by decide))
      · exact ca_list (fun z hz => by
          simp at hz
          rcases hz with rfl | rfl
          · exact w0
          · exact pa_wo pm) (by simp)
      · exact (pw w0).1
      · exact ca_tup (fun z hz => by
          simp at hz
          rcases hz with rfl | rfl | rfl
          · exact w0
          · exact pa_wo pm
          · exact pa_wo pa_nil) (by simp)
      · exact cw2 (it_none.le (by decide) (by decide)) (pa_wo pm)
      · exact cw2 (pa_wo pt) (pa_wo pm)
    rintro e T ⟨l, rfl, hT, hl, hC⟩
    rw [hT]
    clear hT T
    ac_rfl
    refine Wp.of rfl ?_
    ac_rfl
    refine ⟨by rw [List.length_append, hl, szl]; simp, ?_⟩
    ac_rfl
    refine ⟨_, rfl, List.take_length, by rw [List.length_append, hl]; rfl, fun y hy => ?_⟩
    rcases List.mem_append.mp hy with hy | hy
    · exact hC y hy
    simp only [List.mem_cons, List.not_mem_nil, or_false] at hy
    rcases hy with rfl | rfl | rfl | rfl | rfl | rfl | rfl
    · exact cw2 (wo2 pa_nil pa_nil) (pa_wo pa_nil)
    · exact cw2 (wo2 (pa_list (fun z hz => it_strs lt z (List.mem_reverse.mp hz)) (by rw [List.length_reverse, List.length_map]; omega)) pa_nil) (pa_wo pa_nil)
    · exact it_none.le (by decide) (by decide)
    · exact ⟨⟨by decide, by decide, by decide +kernel, by decide, low_lit (by decide +kernel)⟩, rfl⟩
    · exact (it_str (x := "") (low_lit (by decide +kernel)) (by decide)).le (by decide) (by decide)
    · exact ⟨⟨by decide, by decide, by decide +kernel, by decide, low_lit (by decide +kernel)⟩, rfl⟩
    · refine cw2 (wo2 pt (pa_list (fun z hz => ?_) (by simp))) (pa_wo pm)
      simp at hz
      subst hz
      exact it_fact (f := ["Goal"]) (fun t ht => by
        simp at ht
        subst ht
        exact ⟨low_lit (by decide +kernel), by decide⟩) (by simp)
  obtain ⟨v, T, e, l, rfl, rfl, h1, h2⟩ := key.ok
  exact ⟨l, e, h1, h2⟩
end Gs
end
section
set_option autoImplicit false
set_option linter.all false
set_option maxRecDepth 100000
set_option maxHeartbeats 1000000
/-! Qs4: the strengths are right. -/
namespace Gs
open PySem Mp Mp.Ww Gd
local macro_rules | `(tactic| ac_rfl) => `(tactic| ((repeat ((conv => whnf); first | refine XE.st _ ?_ | refine XD.st _ ?_ | refine XV.st _ ?_ | refine XA.st _ ?_ | refine XO.st _ ?_ | refine XI.st _ ?_ | refine XS.st _ ?_ | refine XSs.st _ ?_ | refine Bra.t rfl ?_ | refine Bra.f rfl ?_ | refine Opt.of rfl ?_ | refine Opt.of atI_z ?_ | refine Opt.of atI_o ?_ | refine Opt.glb (by with_reducible assumption) ?_ | refine cm_int ?_ | refine cm_is ?_ | refine cm_eq ?_ | refine cm_ne ?_ | refine cm_gen ?_ | refine look_of (cfg_gen (by assumption)) ?_ | refine look_of (cfg_loc rfl) ?_ | refine And.intro (by first | with_reducible assumption | exact rfl | exact Nat.le_of_ble_eq_true rfl | exact ⟨rfl, Nat.le_of_ble_eq_true rfl⟩ | decide | omega | (have hsz := szl; omega)) ?_ | rw [cfg_set (by assumption)] | rw [cfg_setloc] | rw [cfg_push])); (try (conv => whnf))))
variable {Γ : Nat → List Val → M Val} {gl : List PyData} {X : XT}
def AllS (F : List Val → M Val) : Prop := GW F [] 300000 (fun v => v = .d (.bool true))
theorem strengths_ok {ki ks kd kr : Nat} (is : IsS (Γ ki)) (strength : StrengthS (Γ ks)) (due : StrengthS (Γ kd)) (random : RandS (Γ kr)) : AllS ((A__law_strengths_right ki ks kd kr).run Γ gl) := by
  have hsz := szl
  refine GW.run rfl fun S i g b hi ok hb => ?_
  refine XSs.stepJ (fun e T => ∃ (nm : List PyData) (g1 : List PyData), e = [some (.c i), some (.d (.list nm)), none, none, none, none, none, none] ∧ T = cfg S i g1 [] ∧ nm.length = 7 ∧ GenOk (b + 100) g1) ?_ ?_
  · ac_rfl
    refine lc_genM (c := 10) (fun _ => True) ok (by rw [rng_len]; exact Nat.le_trans (by simp) hb) (fun v g' b' hv ok' hb' => ?_) fun ys g2 hys _ ok2 => ?_
    · refine Wp.lcB ?_
      ac_rfl
      refine GW.call (random 6 ⟨by omega, by omega⟩) ok' hi hb' fun v g1 ok1 p => ?_
      obtain ⟨r, rfl, _⟩ := p
      ac_rfl
      exact ⟨g1, _, rfl, rfl, ok1, trivial⟩
    · rw [rng_len] at hys ok2
      have hys6 : ys.length = 6 := hys
      refine ⟨by omega, ?_⟩
      ac_rfl
      refine pow_pu (by decide) ?_
      ac_rfl
      refine GW.call (random (10 ^ 30) ⟨by decide, by decide⟩) ok2 hi (by simp; omega) fun v g1 ok1 p => ?_
      obtain ⟨r, rfl, _⟩ := p
      ac_rfl
      refine ⟨by rw [List.length_append, hys6, szl]; simp, ?_⟩
      ac_rfl
      exact ⟨_, g1, rfl, rfl, by rw [List.length_append, hys6]; rfl, ok1.le (by simp)⟩
  rintro e T ⟨nm, g1, rfl, rfl, hn, ok1⟩
  match nm, hn with
  | [n0, n1, n2, n3, n4, n5, n6], _ =>
  refine XSs.stepJ (fun e T => ∃ (vs : List PyData), e = [some (.c i), some (.d (.list [n0, n1, n2, n3, n4, n5, n6])), some (.d (.list vs)), none, none, none, none, none] ∧ T = cfg S i g1 [] ∧ vs.length = 20) ?_ ?_
  · ac_rfl
    refine Wp.lc_map (fun x => .tuple [x, n0]) here_none (fun x hx => ?_) ?_
    · refine Wp.lcB ?_
      ac_rfl
    ac_rfl
    refine Wp.lc_map (fun x => .tuple [n0, x]) here_none (fun x hx => ?_) ?_
    · refine Wp.lcB ?_
      ac_rfl
    ac_rfl
    refine lc_pureM (fun _ => True) here_none (fun v hv => ?_) fun ys hys _ => ?_
    · obtain ⟨j, hj, rfl⟩ := mem_rng hv
      have hj6 : j < 6 := hj
      obtain ⟨a, _, ea⟩ := atI_some (xs := [n0, n1, n2, n3, n4, n5, n6]) (r := (j : Int)) (by omega) (by simp; omega)
      obtain ⟨c, _, ec⟩ := atI_some (xs := [n0, n1, n2, n3, n4, n5, n6]) (r := (j : Int) + 1) (by omega) (by simp; omega)
      refine Wp.lcB ?_
      ac_rfl
      refine Opt.of ea ?_
      ac_rfl
      refine Opt.of ec ?_
      ac_rfl
      exact ⟨_, rfl, rfl, trivial⟩
    · rw [rng_len] at hys
      have hys6 : ys.length = 6 := hys
      refine ⟨by omega, ?_⟩
      ac_rfl
      refine ⟨by rw [List.length_append, hys6, szl]; simp, ?_⟩
      ac_rfl
      exact ⟨_, rfl, rfl, by rw [List.length_append, hys6]; rfl⟩
  rintro e T ⟨vs, rfl, rfl, hvs⟩
  refine XSs.stepJ (fun e T => ∃ (vs : List PyData), e = [some (.c i), some (.d (.list [n0, n1, n2, n3, n4, n5, n6])), some (.d (.list vs)), none, none, none, none, none] ∧ T = cfg S i g1 [] ∧ vs.length = 40) ?_ ?_
  · ac_rfl
    refine Wp.of rfl ?_
    ac_rfl
    refine ⟨by rw [List.length_append, hvs]; decide, ?_⟩
    ac_rfl
    exact ⟨_, rfl, rfl, by rw [List.length_append, hvs]; rfl⟩
  rintro e T ⟨vs, rfl, rfl, hvs⟩
  ac_rfl
  refine Wp.lc_filter (fun _ => false) here_none (fun x hx => ?_) ?_
  · refine Wp.lcB ?_
    ac_rfl
    refine Wp.of (strength _ _) ?_
    ac_rfl
    refine Wp.of (due _ _) ?_
    ac_rfl
    refine Wp.of (is _ _) ?_
    ac_rfl
  · rw [filter_no]
    ac_rfl
    refine eq_nil ?_
    ac_rfl
    exact EndG.d (ok1.le (by omega)) rfl
end Gs
end
section
set_option autoImplicit false
set_option linter.all false
set_option maxRecDepth 100000
set_option maxHeartbeats 1000000
/-! Qs5: the cases, pools and lots are right; the law k03. -/
namespace Gs
open PySem Mp Mp.Ww Gd
local macro_rules | `(tactic| ac_rfl) => `(tactic| ((repeat ((conv => whnf); first | refine XE.st _ ?_ | refine XD.st _ ?_ | refine XV.st _ ?_ | refine XA.st _ ?_ | refine XO.st _ ?_ | refine XI.st _ ?_ | refine XS.st _ ?_ | refine XSs.st _ ?_ | refine Bra.t rfl ?_ | refine Bra.f rfl ?_ | refine Opt.of rfl ?_ | refine Opt.of atI_z ?_ | refine Opt.of atI_o ?_ | refine Opt.glb (by with_reducible assumption) ?_ | refine cm_int ?_ | refine cm_is ?_ | refine cm_eq ?_ | refine cm_ne ?_ | refine cm_gen ?_ | refine look_of (cfg_gen (by assumption)) ?_ | refine look_of (cfg_loc rfl) ?_ | refine And.intro (by first | with_reducible assumption | exact rfl | exact Nat.le_of_ble_eq_true rfl | exact ⟨rfl, Nat.le_of_ble_eq_true rfl⟩ | decide | omega | (have hsz := szl; omega)) ?_ | rw [cfg_set (by assumption)] | rw [cfg_setloc] | rw [cfg_push])); (try (conv => whnf))))
variable {Γ : Nat → List Val → M Val} {gl : List PyData} {X : XT}
theorem okL {xs : List PyData} (h : ∀ x ∈ xs, okD x = true) (hl : xs.length ≤ 1000) : okD (.list xs) = true := by
  rw [okD, Bool.and_eq_true, decide_eq_true_eq, okDs_all]
  exact ⟨hl, h⟩
theorem okT {xs : List PyData} (h : ∀ x ∈ xs, okD x = true) (hl : xs.length ≤ 1000) : okD (.tuple xs) = true := by
  rw [okD, Bool.and_eq_true, decide_eq_true_eq, okDs_all]
  exact ⟨hl, h⟩
abbrev e10 (i : Nat) (cs rs m near : PyData) (o5 o6 o7 o8 o9 : Option Val) : Mp.Env := [some (.c i), some (.d cs), some (.d rs), some (.d m), some (.d near), o5, o6, o7, o8, o9]
abbrev endC (S : Store) (i b : Nat) : Fl → Store → Prop := endX S false (EndG S i b 300000 fun v => v = .d (.bool true))
theorem sm_both {cs near : List PyData} (hc : ∀ y ∈ cs, Ca y) (lc : cs.length ≤ 4) (hn : ∀ y ∈ near, Ca y) (ln : near.length = 24) : Sm 6 15606538 (.list [.list cs, .list near]) := by
  refine (Sm.list (k := 5) (n := 7803266) (m := 2) (fun y hy => ?_) (by simp) (by decide)).le (by decide) (by decide)
  simp at hy
  rcases hy with rfl | rfl
  · exact (Sm.list (m := 24) (fun y hy => (hc y hy).sm) (by omega) (by decide)).le (by decide) (by decide)
  · exact (Sm.list (m := 24) (fun y hy => (hn y hy).sm) (by omega) (by decide)).le (by decide) (by decide)
theorem repr_pu' {k n : Nat} {d : PyData} {K : PyData → Prop} (h : Sm k n d) (hk : k ≤ 60) (hn : n ≤ 16000000) (q : K (.str d.shown)) : Pu (b1D .repr d) K := repr_pu h hk hn q
section
variable {k1 k2 k3 k4 k5 k6 k7 k8 k9 k10 : Nat} {S : Store} {i b : Nat} {rs m : PyData} {o6 o7 o8 : Option Val}
theorem v2 (is : IsS (Γ k1)) (lot : LotS (Γ k2)) (duelot : LotS (Γ k3)) {cs near lots : List PyData} (hc : ∀ y ∈ cs, Ca y) (lc : cs.length = 4) (hn : ∀ y ∈ near, Ca y) (ln : near.length = 24) (hl : ∀ y ∈ lots, lotOk y) (ll : lots.length ≤ 50) {g : List PyData} (ok : GenOk (b + 300000) g) :
    XSs Γ gl nx (A__law_cases_right_x2 k1 k2 k3 k4 k5 k6 k7 k8 k9 k10) (e10 i (.list cs) rs m (.list near) (some (.d (.str (PyData.list [.list cs, .list near]).shown))) o6 o7 o8 (some (.d (.list lots)))) (endC S i b) (cfg S i g []) := by
  have hsz := szl
  have okc : okD (.list cs) = true := okL (fun y hy => (hc y hy).ok) (by omega)
  have okct : okD (.tuple cs) = true := okT (fun y hy => (hc y hy).ok) (by omega)
  refine XSs.stepJ (fun e T => ∃ (lots : List PyData) (o8 : Option Val), e = e10 i (.list cs) rs m (.list near) (some (.d (.str (PyData.list [.list cs, .list near]).shown))) o6 o7 o8 (some (.d (.list lots))) ∧ T = cfg S i g [] ∧ (∀ y ∈ lots, lotOk y) ∧ lots.length ≤ 1000) ?_ ?_
  · ac_rfl
    refine Wp.of rfl ?_
    ac_rfl
    refine ⟨by rw [List.length_append]; simp only [List.length_cons, List.length_nil]; omega, ?_⟩
    ac_rfl
    refine Wp.lc_map (fun x => .tuple [.list [x], .list []]) here_none (fun x hx => ?_) ?_
    · refine Wp.lcB ?_
      ac_rfl
    refine ⟨by rw [List.length_map]; omega, ?_⟩
    ac_rfl
    refine ⟨by rw [List.length_append, List.length_append, List.length_map]; simp only [List.length_cons, List.length_nil]; omega, ?_⟩
    ac_rfl
    refine Wp.lc_map (fun x => .tuple [.list cs, .list [x]]) here_none (fun x hx => ?_) ?_
    · refine Wp.lcB ?_
      ac_rfl
    refine ⟨by rw [List.length_map]; omega, ?_⟩
    ac_rfl
    refine ⟨by rw [List.length_append, List.length_append, List.length_append, List.length_map, List.length_map]; simp only [List.length_cons, List.length_nil]; omega, ?_⟩
    ac_rfl
    refine ⟨_, _, rfl, rfl, fun y hy => ?_, by rw [List.length_append, List.length_append, List.length_append, List.length_map, List.length_map]; simp only [List.length_cons, List.length_nil]; omega⟩
    have one : ∀ {x : PyData}, okD x = true → okD (.list [x]) = true := fun h => okL (by intro z hz; simp at hz; exact hz ▸ h) (by simp)
    have two : ∀ {x z : PyData}, okD x = true → okD z = true → okD (.tuple [x, z]) = true := fun h h' => okT (by intro w hw; simp at hw; rcases hw with rfl | rfl <;> assumption) (by simp)
    rcases List.mem_append.mp hy with hy | hy
    · rcases List.mem_append.mp hy with hy | hy
      · rcases List.mem_append.mp hy with hy | hy
        · exact hl y hy
        · simp only [List.mem_cons, List.not_mem_nil, or_false] at hy
          rcases hy with rfl | rfl | rfl | rfl | rfl | rfl | rfl | rfl
          · exact ⟨two okct rfl, fun a b h => by cases h⟩
          · exact ⟨two rfl okct, fun a b h => by cases h⟩
          · exact ⟨rfl, fun a b h => by cases h⟩
          · exact ⟨rfl, fun a b h => by cases h⟩
          · exact ⟨rfl, fun a b h => by cases h⟩
          · exact ⟨rfl, fun a b h => by cases h⟩
          · exact ⟨rfl, fun a b h => by cases h⟩
          · exact ⟨okc, fun a b h => by cases h⟩
      · obtain ⟨x, hx, rfl⟩ := List.mem_map.mp hy
        exact ⟨two (one (hn x hx).ok) rfl, fun a b h => by cases h; simp⟩
    · obtain ⟨x, hx, rfl⟩ := List.mem_map.mp hy
      exact ⟨two okc (one (hn x hx).ok), fun a b h => by cases h; simp; omega⟩
  rintro e T ⟨lots, o8, rfl, rfl, hl, ll⟩
  ac_rfl
  refine Wp.lc_filter (fun _ => false) here_none (fun x hx => ?_) ?_
  · refine Wp.lcB ?_
    ac_rfl
    refine Wp.of (lot _ _ (hl x hx)) ?_
    ac_rfl
    refine Wp.of (duelot _ _ (hl x hx)) ?_
    ac_rfl
    refine Wp.of (is _ _) ?_
    ac_rfl
  · rw [filter_no]
    ac_rfl
    refine eq_nil ?_
    ac_rfl
    have hs := sm_both hc (by omega) hn ln
    refine repr_pu' hs (by decide) (by decide) ?_
    ac_rfl
    refine eq_str (lay_low hs.low) (lay_low hs.low) ?_
    rw [decide_eq_true rfl]
    ac_rfl
    exact EndG.d ok rfl
theorem v5 (is : IsS (Γ k1)) (lot : LotS (Γ k2)) (duelot : LotS (Γ k3)) {cs near : List PyData} {other : PyData} {o9 : Option Val} (hc : ∀ y ∈ cs, Ca y) (lc : cs.length = 4) (hn : ∀ y ∈ near, Ca y) (ln : near.length = 24) (ho : okD other = true) {g : List PyData} (ok : GenOk (b + 300000) g) :
    XSs Γ gl nx (A__law_cases_right_x5 k1 k2 k3 k4 k5 k6 k7 k8 k9 k10) (e10 i (.list cs) rs m (.list near) (some (.d (.str (PyData.list [.list cs, .list near]).shown))) (some (.d other)) o7 o8 o9) (endC S i b) (cfg S i g []) := by
  have hsz := szl
  have okc : okD (.list cs) = true := okL (fun y hy => (hc y hy).ok) (by omega)
  have cut : ∀ lo hi, okD (.list (cutD cs lo hi)) = true := fun lo hi => okL (fun y hy => (hc y (cut_mem' hy)).ok) (by have := cut_len' cs lo hi; omega)
  have one : okD (.list [other]) = true := okL (by intro z hz; simp at hz; exact hz ▸ ho) (by simp)
  have two : ∀ {x z : PyData}, okD x = true → okD z = true → okD (.tuple [x, z]) = true := fun h h' => okT (by intro w hw; simp at hw; rcases hw with rfl | rfl <;> assumption) (by simp)
  refine XSs.stepJ (fun e T => ∃ (lots : List PyData), e = e10 i (.list cs) rs m (.list near) (some (.d (.str (PyData.list [.list cs, .list near]).shown))) (some (.d other)) o7 o8 (some (.d (.list lots))) ∧ T = cfg S i g [] ∧ (∀ y ∈ lots, lotOk y) ∧ lots.length ≤ 50) ?_ ?_
  · ac_rfl
    refine ⟨_, rfl, rfl, fun y hy => ?_, by simp⟩
    simp only [List.mem_cons, List.not_mem_nil, or_false] at hy
    rcases hy with rfl | rfl | rfl | rfl | rfl | rfl | rfl | rfl | rfl | rfl | rfl
    · exact ⟨rfl, fun a b h => by cases h; simp⟩
    · exact ⟨two okc rfl, fun a b h => by cases h; simp; omega⟩
    · exact ⟨two rfl okc, fun a b h => by cases h; simp; omega⟩
    · exact ⟨two (cut _ _) (cut _ _), fun a b h => by
        cases h
        have := cut_len' cs none (some 2)
        have := cut_len' cs (some 2) none
        omega⟩
    · exact ⟨two okc okc, fun a b h => by cases h; omega⟩
    · exact ⟨two okc one, fun a b h => by cases h; simp; omega⟩
    · exact ⟨two one one, fun a b h => by cases h; simp⟩
    · exact ⟨two one okc, fun a b h => by cases h; simp; omega⟩
    · exact ⟨okL (by intro w hw; simp at hw; exact hw ▸ okc) (by simp), fun a b h => by cases h⟩
    · exact ⟨okT (by intro w hw; simp at hw; exact hw ▸ okc) (by simp), fun a b h => by cases h⟩
    · exact ⟨okT (by intro w hw; simp at hw; rcases hw with rfl | rfl; exact okc; rfl) (by simp), fun a b h => by cases h⟩
  rintro e T ⟨lots, rfl, rfl, hl, ll⟩
  exact v2 is lot duelot hc lc hn ln hl ll ok
/-- all cases, with equally many marks -/
structure Alike (cs : List PyData) (mm : Nat) : Prop where
  ca : ∀ y ∈ cs, Ca y
  len : cs.length = 4
  case : ∀ y ∈ cs, caseB y = true
  marks : ∀ y ∈ cs, marksLen y = mm
theorem Alike.lot {cs : List PyData} {mm : Nat} (h : Alike cs mm) {a c : List PyData} (ha : ∀ y ∈ a, y ∈ cs) (hcc : ∀ y ∈ c, y ∈ cs) (hl : a.length + c.length ≤ 1000) : lotOk (.tuple [.list a, .list c]) ∧ lotB (.tuple [.list a, .list c]) = true := by
  have oka : okD (.list a) = true := okL (fun y hy => (h.ca y (ha y hy)).ok) (by omega)
  have okc : okD (.list c) = true := okL (fun y hy => (h.ca y (hcc y hy)).ok) (by omega)
  refine ⟨⟨okT (by intro w hw; simp at hw; rcases hw with rfl | rfl <;> assumption) (by simp), fun a b e => by cases e; exact hl⟩, ?_⟩
  show ((a ++ c).all caseB && (a ++ c).all fun x => decide (marksLen x = marksLen ((a ++ c).headD .none))) = true
  have hm : ∀ y ∈ a ++ c, y ∈ cs := fun y hy => by
    rcases List.mem_append.mp hy with q | q
    · exact ha y q
    · exact hcc y q
  rw [Bool.and_eq_true, List.all_eq_true, List.all_eq_true]
  refine ⟨fun y hy => h.case y (hm y hy), fun y hy => decide_eq_true ?_⟩
  cases e : a ++ c with
  | nil => rw [e] at hy; cases hy
  | cons z zs =>
    rw [h.marks y (hm y hy)]
    exact (h.marks z (hm z (by rw [e]; exact List.mem_cons_self ..))).symm
theorem v7 (is : IsS (Γ k1)) (lot : LotS (Γ k2)) (duelot : LotS (Γ k3)) (case : CasePS (Γ k4)) (strength : StrengthS (Γ k5)) (pool : PoolS (Γ k6)) (duepool : PoolS (Γ k7)) {x0 x1 x2 x3 : PyData} {near pools : List PyData} {mm : Nat} {other : PyData} {o9 : Option Val} (A : Alike [x0, x1, x2, x3] mm) (hn : ∀ y ∈ near, Ca y) (ln : near.length = 24) (ho : okD other = true) (hp : ∀ y ∈ pools, okD y = true) {g : List PyData} (ok : GenOk (b + 300000) g) :
    XSs Γ gl nx (A__law_cases_right_x7 k1 k2 k3 k4 k5 k6 k7 k8 k9 k10) (e10 i (.list [x0, x1, x2, x3]) rs m (.list near) (some (.d (.str (PyData.list [.list [x0, x1, x2, x3], .list near]).shown))) (some (.d other)) (some (.d (.list pools))) o8 o9) (endC S i b) (cfg S i g []) := by
  have hsz := szl
  refine XSs.stepJ (fun e T => ∃ (o8 : Option Val), e = e10 i (.list [x0, x1, x2, x3]) rs m (.list near) (some (.d (.str (PyData.list [.list [x0, x1, x2, x3], .list near]).shown))) (some (.d other)) (some (.d (.list pools))) o8 o9 ∧ T = cfg S i g []) ?_ ?_
  · ac_rfl
    refine Wp.forI (fun vs env T => (∀ v ∈ vs, ∃ d, v = Val.d d ∧ okD d = true) ∧ ∃ (o8 : Option Val), env = e10 i (.list [x0, x1, x2, x3]) rs m (.list near) (some (.d (.str (PyData.list [.list [x0, x1, x2, x3], .list near]).shown))) (some (.d other)) (some (.d (.list pools))) o8 o9 ∧ T = cfg S i g []) (fun _ _ _ _ => here_none) (fun v vs env T inv => ?_) (fun env T inv => ?_) ⟨fun v hv => ?_, _, rfl, rfl⟩
    · obtain ⟨hvs, o8, rfl, rfl⟩ := inv
      obtain ⟨d, rfl, hd⟩ := hvs v (List.mem_cons_self ..)
      refine Wp.foB ?_
      ac_rfl
      refine Wp.of (pool _ _ hd) ?_
      ac_rfl
      refine Wp.of (duepool _ _ hd) ?_
      ac_rfl
      refine Wp.of (is _ _) ?_
      ac_rfl
      refine Wp.of (pool _ _ hd) ?_
      ac_rfl
      refine Wp.of (duepool _ _ hd) ?_
      ac_rfl
      refine Wp.of (is _ _) ?_
      ac_rfl
      exact ⟨fun v hv => hvs v (List.mem_cons_of_mem _ hv), _, rfl, rfl⟩
    · exact inv.2
    · obtain ⟨x, hx, rfl⟩ := List.mem_map.mp hv
      exact ⟨x, rfl, hp x hx⟩
  rintro e T ⟨o8, rfl, rfl⟩
  have hcut : cutD [x0, x1, x2, x3] none (some 1) = [x0] := by rw [cut_to (by decide)]; rfl
  have L := A.lot (a := (List.replicate (Int.toNat 13) [x0]).flatten) (c := (List.replicate (Int.toNat 4) [x0, x1, x2, x3]).flatten) (fun y hy => by have := rep_mem hy; simp at this; simp [this]) (fun y hy => rep_mem hy) (by simp)
  refine XSs.step (e := e10 i (.list [x0, x1, x2, x3]) rs m (.list near) (some (.d (.str (PyData.list [.list [x0, x1, x2, x3], .list near]).shown))) (some (.d other)) (some (.d (.list pools))) o8 o9) (S' := cfg S i g []) ?_ ?_
  · ac_rfl
    rw [hcut]
    refine mul_list' (by decide) (by simp) ?_
    ac_rfl
    refine mul_list' (by decide) (by simp) ?_
    ac_rfl
    refine Wp.of (lot _ _ L.1) ?_
    ac_rfl
    rw [L.2]
    refine isnot_b ?_
    ac_rfl
    refine Wp.of (case _ _ (A.ca x0 (by simp)).ok) ?_
    ac_rfl
    rw [A.case x0 (by simp)]
    refine isnot_b ?_
    ac_rfl
    refine Wp.of (strength _ _) ?_
    ac_rfl
    refine isnot_b ?_
    ac_rfl
  exact v5 is lot duelot A.ca A.len hn ln ho ok
theorem v8 (is : IsS (Γ k1)) (lot : LotS (Γ k2)) (duelot : LotS (Γ k3)) (case : CasePS (Γ k4)) (strength : StrengthS (Γ k5)) (pool : PoolS (Γ k6)) (duepool : PoolS (Γ k7)) {x0 x1 x2 x3 : PyData} {near pools : List PyData} {mm : Nat} {other : PyData} {o9 : Option Val} (A : Alike [x0, x1, x2, x3] mm) (hn : ∀ y ∈ near, Ca y) (ln : near.length = 24) (ho : okD other = true) (hp : ∀ y ∈ pools, okD y = true) (lp : pools.length ≤ 20) {g : List PyData} (ok : GenOk (b + 300000) g) :
    XSs Γ gl nx (A__law_cases_right_x8 k1 k2 k3 k4 k5 k6 k7 k8 k9 k10) (e10 i (.list [x0, x1, x2, x3]) rs m (.list near) (some (.d (.str (PyData.list [.list [x0, x1, x2, x3], .list near]).shown))) (some (.d other)) (some (.d (.list pools))) o8 o9) (endC S i b) (cfg S i g []) := by
  have hsz := szl
  have hcut : cutD [x0, x1, x2, x3] none (some 1) = [x0] := by rw [cut_to (by decide)]; rfl
  refine XSs.stepJ (fun e T => ∃ (pools : List PyData) (o8 : Option Val), e = e10 i (.list [x0, x1, x2, x3]) rs m (.list near) (some (.d (.str (PyData.list [.list [x0, x1, x2, x3], .list near]).shown))) (some (.d other)) (some (.d (.list pools))) o8 o9 ∧ T = cfg S i g [] ∧ (∀ y ∈ pools, okD y = true) ∧ pools.length ≤ 68) ?_ ?_
  · ac_rfl
    refine Wp.lc_map (fun x => .list [x]) here_none (fun x hx => ?_) ?_
    · refine Wp.lcB ?_
      ac_rfl
    refine ⟨by rw [List.length_map]; omega, ?_⟩
    ac_rfl
    refine ⟨by rw [List.length_append, List.length_map]; omega, ?_⟩
    ac_rfl
    refine Wp.lc_map (fun x => .list [x0, x1, x2, x3, x]) here_none (fun x hx => ?_) ?_
    · refine Wp.lcB ?_
      ac_rfl
    refine ⟨by rw [List.length_map]; omega, ?_⟩
    ac_rfl
    refine ⟨by rw [List.length_append, List.length_append, List.length_map, List.length_map]; omega, ?_⟩
    ac_rfl
    refine ⟨_, _, rfl, rfl, fun y hy => ?_, by rw [List.length_append, List.length_append, List.length_map, List.length_map]; omega⟩
    rcases List.mem_append.mp hy with hy | hy
    · rcases List.mem_append.mp hy with hy | hy
      · exact hp y hy
      · obtain ⟨x, hx, rfl⟩ := List.mem_map.mp hy
        exact okL (by intro z hz; simp at hz; exact hz ▸ (hn x hx).ok) (by simp)
    · obtain ⟨x, hx, rfl⟩ := List.mem_map.mp hy
      refine okL (fun z hz => ?_) (by simp)
      have : z ∈ [x0, x1, x2, x3] ∨ z = x := by
        simp at hz ⊢
        rcases hz with h | h | h | h | h <;> simp [h]
      rcases this with h | rfl
      · exact (A.ca z h).ok
      · exact (hn z hx).ok
  rintro e T ⟨pools, o8, rfl, rfl, hp, lp⟩
  refine XSs.stepJ (fun e T => ∃ (pools : List PyData), e = e10 i (.list [x0, x1, x2, x3]) rs m (.list near) (some (.d (.str (PyData.list [.list [x0, x1, x2, x3], .list near]).shown))) (some (.d other)) (some (.d (.list pools))) o8 o9 ∧ T = cfg S i g [] ∧ (∀ y ∈ pools, okD y = true)) ?_ ?_
  · ac_rfl
    rw [hcut]
    refine mul_list' (by decide) (by simp) ?_
    ac_rfl
    refine mul_list' (by decide) (by simp) ?_
    ac_rfl
    refine ⟨by rw [List.length_append]; simp only [List.length_cons, List.length_nil]; omega, ?_⟩
    ac_rfl
    refine ⟨_, rfl, rfl, fun y hy => ?_⟩
    rcases List.mem_append.mp hy with hy | hy
    · exact hp y hy
    simp only [List.mem_cons, List.not_mem_nil, or_false] at hy
    rcases hy with rfl | rfl
    · exact okL (fun z hz => by have := rep_mem hz; simp at this; exact this ▸ (A.ca x0 (by simp)).ok) (by simp)
    · exact okL (fun z hz => (A.ca z (rep_mem hz)).ok) (by simp)
  rintro e T ⟨pools, rfl, rfl, hp⟩
  exact v7 is lot duelot case strength pool duepool A hn ln ho hp ok
theorem v10 (is : IsS (Γ k1)) (lot : LotS (Γ k2)) (duelot : LotS (Γ k3)) (case : CasePS (Γ k4)) (strength : StrengthS (Γ k5)) (pool : PoolS (Γ k6)) (duepool : PoolS (Γ k7)) {x0 x1 x2 x3 : PyData} {near : List PyData} {mm : Nat} {ts1 ms1 : List Str} {gs1 : List (List Str)} {o9 : Option Val} (A : Alike [x0, x1, x2, x3] mm) (e1 : x1 = caseD ts1 gs1 ms1) (hn : ∀ y ∈ near, Ca y) (ln : near.length = 24) {g : List PyData} (ok : GenOk (b + 300000) g) :
    XSs Γ gl nx (A__law_cases_right_x10 k1 k2 k3 k4 k5 k6 k7 k8 k9 k10) (e10 i (.list [x0, x1, x2, x3]) rs m (.list near) (some (.d (.str (PyData.list [.list [x0, x1, x2, x3], .list near]).shown))) o6 o7 o8 o9) (endC S i b) (cfg S i g []) := by
  have hsz := szl
  have o1 := (A.ca x1 (by simp)).ok
  rw [e1] at o1
  obtain ⟨_, h1⟩ := ok_tuple o1
  have ow := h1 (worldD ts1 gs1) (by simp)
  have om := ok_list (h1 (.list (sD ms1)) (by simp))
  obtain ⟨_, h2⟩ := ok_tuple ow
  have ot := ok_list (h2 (.list (sD ts1)) (by simp))
  have cw := A.case x1 (by simp)
  rw [e1] at cw
  have cw : (worldB (worldD ts1 gs1) && (decide ((sD ms1).length ≤ 3) && _)) = true := cw
  rw [Bool.and_eq_true, Bool.and_eq_true, decide_eq_true_eq] at cw
  have lm := cw.2.1
  have lcut := cut_len' (sD ts1) none (some 1)
  have lt := ot.1
  refine XSs.step (e := e10 i (.list [x0, x1, x2, x3]) rs m (.list near) (some (.d (.str (PyData.list [.list [x0, x1, x2, x3], .list near]).shown))) (some (.d (.tuple [worldD ts1 gs1, .list (sD ms1 ++ cutD (sD ts1) none (some 1))]))) o7 o8 o9) (S' := cfg S i g []) ?_ ?_
  · rw [e1]
    ac_rfl
    refine ⟨by rw [List.length_append]; omega, ?_⟩
    ac_rfl
  have lc1 : (cutD (sD ts1) none (some 1)).length ≤ 1 := by
    rw [cut_to (by decide), List.length_take]
    exact Nat.min_le_left _ _
  have ho : okD (.tuple [worldD ts1 gs1, .list (sD ms1 ++ cutD (sD ts1) none (some 1))]) = true := okT (fun y hy => by
    simp only [List.mem_cons, List.not_mem_nil, or_false] at hy
    rcases hy with rfl | rfl
    · exact ow
    · refine okL (fun z hz => ?_) (by rw [List.length_append]; omega)
      rcases List.mem_append.mp hz with q | q
      · exact om.2 z q
      · exact ot.2 z (cut_mem' q)) (by simp)
  have okc : okD (.list [x0, x1, x2, x3]) = true := okL (fun y hy => (A.ca y hy).ok) (by simp)
  have okct : okD (.tuple [x0, x1, x2, x3]) = true := okT (fun y hy => (A.ca y hy).ok) (by simp)
  generalize PyData.tuple [worldD ts1 gs1, .list (sD ms1 ++ cutD (sD ts1) none (some 1))] = other at ho ⊢
  have hcut : cutD [x0, x1, x2, x3] none (some 1) = [x0] := by rw [cut_to (by decide)]; rfl
  refine XSs.stepJ (fun e T => ∃ (pools : List PyData), e = e10 i (.list [x0, x1, x2, x3]) rs m (.list near) (some (.d (.str (PyData.list [.list [x0, x1, x2, x3], .list near]).shown))) (some (.d other)) (some (.d (.list pools))) o8 o9 ∧ T = cfg S i g [] ∧ (∀ y ∈ pools, okD y = true) ∧ pools.length ≤ 20) ?_ ?_
  · ac_rfl
    rw [hcut]
    ac_rfl
    refine Wp.of rfl ?_
    ac_rfl
    refine ⟨_, rfl, rfl, fun y hy => ?_, by simp⟩
    simp only [List.mem_cons, List.not_mem_nil, or_false] at hy
    have cs : ∀ {l : List PyData}, (∀ z ∈ l, z ∈ [x0, x1, x2, x3] ∨ z = other) → l.length ≤ 1000 → okD (.list l) = true := fun h hl => okL (fun z hz => by
      rcases h z hz with q | rfl
      · exact (A.ca z q).ok
      · exact ho) hl
    rcases hy with rfl | rfl | rfl | rfl | rfl | rfl | rfl | rfl | rfl | rfl | rfl | rfl | rfl
    · rfl
    · exact okc
    · exact cs (fun z hz => .inl (by simp at hz ⊢; rcases hz with h | h | h | h | h <;> simp [h])) (by simp)
    · exact cs (fun z hz => by simp at hz ⊢; rcases hz with h | h | h | h | h <;> simp [h]) (by simp)
    · exact cs (fun z hz => by simp at hz ⊢; rcases hz with h | h | h | h | h <;> simp [h]) (by simp)
    · exact cs (fun z hz => by simp at hz; exact .inr hz) (by simp)
    · exact okct
    · rfl
    · rfl
    · exact okL (fun z hz => by simp at hz; exact hz ▸ okc) (by simp)
    · rfl
    · rfl
    · exact (A.ca _ (List.mem_cons_self ..)).ok
  rintro e T ⟨pools, rfl, rfl, hp, lp⟩
  exact v8 is lot duelot case strength pool duepool A hn ln ho hp lp ok
end
theorem cases3_ok {k1 k2 k3 k4 k5 k6 k7 k8 k9 k10 : Nat} (is : IsS (Γ k1)) (lot : LotS (Γ k2)) (duelot : LotS (Γ k3)) (case : CasePS (Γ k4)) (strength : StrengthS (Γ k5)) (pool : PoolS (Γ k6)) (duepool : PoolS (Γ k7)) (duecase : CasePS (Γ k8)) (near : NearS (Γ k9)) (drawn : DrawnS (Γ k10)) : AllS ((A__law_cases_right k1 k2 k3 k4 k5 k6 k7 k8 k9 k10).run Γ gl) := by
  have hsz := szl
  refine GW.run rfl fun S i g b hi ok hb => ?_
  refine XSs.stepJ (fun e T => ∃ (rel : List (Str × Nat)) (m : Nat) (xs : List PyData) (g1 : List PyData), e = [some (.c i), some (.d (.list xs)), some (.d (relsD rel)), some (.d (.int (m : Nat))), none, none, none, none, none, none] ∧ T = cfg S i g1 [] ∧ rel ∈ RELS ∧ m ≤ 3 ∧ xs.length = 4 ∧ (∀ x ∈ xs, ∃ ts gs ms, CaseN rel m x ts gs ms) ∧ GenOk (b + 200000) g1) ?_ ?_
  · ac_rfl
    refine GW.call (drawn 4 4 2 2 (by decide) (by decide) (by decide)) ok hi (by omega) fun v g1 ok1 p => ?_
    obtain ⟨rel, m, xs, rfl, hrel, hm, _, hxs, hC⟩ := p
    ac_rfl
    exact ⟨rel, m, xs, g1, rfl, rfl, hrel, hm, hxs, hC, ok1⟩
  rintro e T ⟨rel, m, xs, g1, rfl, rfl, hrel, hm, hxs, hC, ok1⟩
  match xs, hxs, hC with
  | [x0, x1, x2, x3], _, hC =>
  obtain ⟨ts0, gs0, ms0, C0⟩ := hC x0 (by simp)
  obtain ⟨ts1, gs1, ms1, C1⟩ := hC x1 (by simp)
  have A : Alike [x0, x1, x2, x3] m := by
    refine ⟨fun y hy => ?_, rfl, fun y hy => ?_, fun y hy => ?_⟩
    · obtain ⟨ts, gs, ms, C⟩ := hC y hy
      exact (ca_case hrel C hm).1
    · obtain ⟨ts, gs, ms, C⟩ := hC y hy
      exact case_true hrel C hm
    · obtain ⟨ts, gs, ms, C⟩ := hC y hy
      rw [C.eq]
      show (sD ms).length = m
      rw [List.length_map]
      exact C.len
  obtain ⟨l, el, ll, hl⟩ := near rel m x0 ts0 gs0 ms0 (cfg S i g1 []) hrel hm C0
  refine XSs.step (e := e10 i (.list [x0, x1, x2, x3]) (relsD rel) (.int (m : Nat)) (.list l) none none none none none) (S' := cfg S i g1 []) ?_ ?_
  · ac_rfl
    refine Wp.of el ?_
    ac_rfl
  refine XSs.step (e := e10 i (.list [x0, x1, x2, x3]) (relsD rel) (.int (m : Nat)) (.list l) (some (.d (.str (PyData.list [.list [x0, x1, x2, x3], .list l]).shown))) none none none none) (S' := cfg S i g1 []) ?_ ?_
  · ac_rfl
    refine repr_pu' (sm_both A.ca (by simp) hl ll) (by decide) (by decide) ?_
    ac_rfl
  refine XSs.step (e := e10 i (.list [x0, x1, x2, x3]) (relsD rel) (.int (m : Nat)) (.list l) (some (.d (.str (PyData.list [.list [x0, x1, x2, x3], .list l]).shown))) none none none none) (S' := cfg S i g1 []) ?_ ?_
  · ac_rfl
    refine Wp.lc_filter (fun _ => false) here_none (fun x hx => ?_) ?_
    · refine Wp.lcB ?_
      ac_rfl
      refine Wp.of (case _ _ (hl x hx).ok) ?_
      ac_rfl
      refine Wp.of (duecase _ _ (hl x hx).ok) ?_
      ac_rfl
      refine Wp.of (is _ _) ?_
      ac_rfl
    · rw [filter_no]
      ac_rfl
      refine eq_nil ?_
      ac_rfl
  exact v10 is lot duelot case strength pool duepool A C1.eq hl ll (ok1.le (by omega))
end Gs
end
section
set_option autoImplicit false
set_option linter.all false
set_option maxRecDepth 100000
set_option maxHeartbeats 1000000
/-! Qs6: the law k03. -/
namespace Gs
open PySem Mp Mp.Ww Gd
local macro_rules | `(tactic| ac_rfl) => `(tactic| ((repeat ((conv => whnf); first | refine XE.st _ ?_ | refine XD.st _ ?_ | refine XV.st _ ?_ | refine XA.st _ ?_ | refine XO.st _ ?_ | refine XI.st _ ?_ | refine XS.st _ ?_ | refine XSs.st _ ?_ | refine Bra.t rfl ?_ | refine Bra.f rfl ?_ | refine Opt.of rfl ?_ | refine Opt.of atI_z ?_ | refine Opt.of atI_o ?_ | refine Opt.glb (by with_reducible assumption) ?_ | refine cm_int ?_ | refine cm_is ?_ | refine cm_eq ?_ | refine cm_ne ?_ | refine cm_gen ?_ | refine look_of (cfg_gen (by assumption)) ?_ | refine look_of (cfg_loc rfl) ?_ | refine And.intro (by first | with_reducible assumption | exact rfl | exact Nat.le_of_ble_eq_true rfl | exact ⟨rfl, Nat.le_of_ble_eq_true rfl⟩ | decide | omega | (have hsz := szl; omega)) ?_ | rw [cfg_set (by assumption)] | rw [cfg_setloc] | rw [cfg_push])); (try (conv => whnf))))
variable {Γ : Nat → List Val → M Val} {gl : List PyData} {X : XT}
theorem law3_ok {kw kg ko : Nat} (cases : AllS (Γ kw)) (make : MakeS (Γ kg)) (strengths : AllS (Γ ko)) : LawS ((A_lawV1 kw kg ko).run Γ gl) := by
  intro ns S
  have key : Wp ((A_lawV1 kw kg ko).run Γ gl [.scr ns]) (fun v T => v = Val.d (PyData.bool true)) nx S := by
    refine Wp.run rfl ?_
    ac_rfl
    refine Wp.forI (fun vs env T => (∀ v ∈ vs, ∃ j : Nat, v = Val.d (PyData.int j) ∧ j < 2) ∧ ∃ o, env = [some (.scr ns), o]) (fun _ _ _ _ => here_none) (fun v vs env T inv => ?_) (fun env T inv => ?_) ⟨fun v hv => ?_, _, rfl⟩
    · obtain ⟨hvs, o, rfl⟩ := inv
      obtain ⟨j, rfl, hj⟩ := hvs v (List.mem_cons_self ..)
      have hm : 300000 + 2000 ≤ most := by decide
      refine Wp.foB ?_
      ac_rfl
      obtain ⟨g, e, ok⟩ := make ns j T ⟨by omega, by omega⟩
      refine Wp.of e ?_
      ac_rfl
      refine GW.at cases ok (by omega) fun v T' p => ?_
      subst p
      ac_rfl
      obtain ⟨g2, e2, ok2⟩ := make ns j T' ⟨by omega, by omega⟩
      refine Wp.of e2 ?_
      ac_rfl
      refine GW.at strengths ok2 (by omega) fun v T'' p => ?_
      subst p
      ac_rfl
      exact ⟨fun v hv => hvs v (List.mem_cons_of_mem _ hv), _, rfl⟩
    · obtain ⟨hvs, o, rfl⟩ := inv
      ac_rfl
    · obtain ⟨j, hj, rfl⟩ := mem_rng hv
      exact ⟨j, rfl, hj⟩
  obtain ⟨v, T, e, rfl⟩ := key.ok
  exact ⟨T, e⟩
end Gs
end
section
set_option Elab.async false
set_option autoImplicit false
set_option linter.all false
set_option maxRecDepth 100000
set_option maxHeartbeats 8000000
/-! the law's defs in the small Python, and what they do -/
namespace K03
open PySem PySem.Spec PyProof.Rows L2 Mp
def f0 : Fn := Gd.A_is_count
def f1 : Fn := Gd.A_is_spelled 0 2
def f2 : Fn := Gd.A_is_name 1 0
def f3 : Fn := Gd.A_is_derived_name 1 1
def f4 : Fn := Gd.A_ascends
def f5 : Fn := Gd.A_is_fact 2 3
def f6 : Fn := Gd.A_is_told 5 2
def f7 : Fn := Gd.A_are_things 4 2
def f8 : Fn := Gd.A_is_world 6 4 7
def f9 : Fn := Gd.A_is_case 8
def f10 : Fn := Gd.A_is_pool 9
def f11 : Fn := Gd.A_is_lot 10
def f12 : Fn := Gd.A_is_strength 0
def f13 : Fn := Gd.A__law_hash
def f14 : Fn := Gd.A__law_random 13
def f15 : Fn := Gd.A__law_cell
def f16 : Fn := Gd.A__law_generator 15
def f17 : Fn := Gd.A__law_pick 14
def f18 : Fn := Gd.A__law_drawn_order 14
def f19 : Fn := Gd.A__law_things 17 14
def f20 : Fn := Gd.A__law_relations 14
def f21 : Fn := Gd.A__law_rows
def f22 : Fn := Gd.A__law_spread 17 14 21
def f23 : Fn := Gd.A__law_links 18 14
def f24 : Fn := Gd.A__law_world 22 14 17 23
def f25 : Fn := Gd.A__law_changed 14 17
def f26 : Fn := Gd.A__law_marks 14 17
def f27 : Fn := Gd.A__law_cases 26 14 25 17 24 19
def f28 : Fn := Gd.A__law_renamed 18
def f29 : Fn := Gd.A__law_drawn_cases 14 28 27 20
def f30 : Fn := Gd.A__law_is
def f31 : Fn := Gd.A__law_due_case 8
def f32 : Fn := Gd.A__law_due_pool 31
def f33 : Fn := Gd.A__law_due_lot 32
def f34 : Fn := Gd.A__law_due_count
def f35 : Fn := Gd.A__law_due_strength 34
def f36 : Fn := Gd.A__law_near_cases
def f37 : Fn := Gd.A__law_cases_right 30 11 33 9 12 10 32 31 36 29
def f38 : Fn := Gd.A__law_strengths_right 30 12 35 14
def f39 : Fn := Gd.A_lawV1 37 16 38
def tab : Tab := ⟨[f0, f1, f2, f3, f4, f5, f6, f7, f8, f9, f10, f11, f12, f13, f14, f15, f16, f17, f18, f19, f20, f21, f22, f23, f24, f25, f26, f27, f28, f29, f30, f31, f32, f33, f34, f35, f36, f37, f38, f39], [.str "abcdefghijklmnopqrstuvwxyz", .str "ABCDEFGHIJKLMNOPQRSTUVWXYZ", .str "0123456789"]⟩
def cs : List Gc := [.str "SMALL" "abcdefghijklmnopqrstuvwxyz", .str "CAPITAL" "ABCDEFGHIJKLMNOPQRSTUVWXYZ", .str "FIGURES" "0123456789"]
def at_ (i : Nat) : Stmt := PySem.Challenge.pw_taughtrules_k03_cases_lots_and_strengths.main.body.getD i (.Pass ⟨0, 0, 0, 0⟩)
def d0 : Df := ⟨"is_count", ["value"], ["value"], defArgs (at_ 4), defBody (at_ 4), defScope (at_ 4)⟩
def d1 : Df := ⟨"is_spelled", ["value", "firsts"], ["value", "firsts", "sign"], defArgs (at_ 5), defBody (at_ 5), defScope (at_ 5)⟩
def d2 : Df := ⟨"is_name", ["value"], ["value"], defArgs (at_ 6), defBody (at_ 6), defScope (at_ 6)⟩
def d3 : Df := ⟨"is_derived_name", ["value"], ["value"], defArgs (at_ 7), defBody (at_ 7), defScope (at_ 7)⟩
def d4 : Df := ⟨"ascends", ["items"], ["items", "at"], defArgs (at_ 8), defBody (at_ 8), defScope (at_ 8)⟩
def d5 : Df := ⟨"is_fact", ["value"], ["value", "item"], defArgs (at_ 9), defBody (at_ 9), defScope (at_ 9)⟩
def d6 : Df := ⟨"is_told", ["things", "value"], ["things", "value", "item"], defArgs (at_ 10), defBody (at_ 10), defScope (at_ 10)⟩
def d7 : Df := ⟨"are_things", ["value"], ["value", "item"], defArgs (at_ 11), defBody (at_ 11), defScope (at_ 11)⟩
def d8 : Df := ⟨"is_world", ["value"], ["value", "fact"], defArgs (at_ 12), defBody (at_ 12), defScope (at_ 12)⟩
def d9 : Df := ⟨"is_case", ["value"], ["value", "mark"], defArgs (at_ 13), defBody (at_ 13), defScope (at_ 13)⟩
def d10 : Df := ⟨"is_pool", ["value"], ["value", "case"], defArgs (at_ 14), defBody (at_ 14), defScope (at_ 14)⟩
def d11 : Df := ⟨"is_lot", ["value"], ["value"], defArgs (at_ 15), defBody (at_ 15), defScope (at_ 15)⟩
def d12 : Df := ⟨"is_strength", ["value"], ["value"], defArgs (at_ 16), defBody (at_ 16), defScope (at_ 16)⟩
def d13 : Df := ⟨"_law_hash", ["seed", "index"], ["seed", "index", "mixed"], defArgs (at_ 18), defBody (at_ 18), defScope (at_ 18)⟩
def d14 : Df := ⟨"_law_random", ["generator", "bound"], ["generator", "bound", "drawn", "turn"], defArgs (at_ 19), defBody (at_ 19), defScope (at_ 19)⟩
def d15 : Df := ⟨"_law_cell", ["script", "index"], ["script", "index"], defArgs (at_ 20), defBody (at_ 20), defScope (at_ 20)⟩
def d16 : Df := ⟨"_law_generator", ["script", "index"], ["script", "index", "seed"], defArgs (at_ 21), defBody (at_ 21), defScope (at_ 21)⟩
def d17 : Df := ⟨"_law_pick", ["generator", "things"], ["generator", "things"], defArgs (at_ 22), defBody (at_ 22), defScope (at_ 22)⟩
def d18 : Df := ⟨"_law_drawn_order", ["generator", "things"], ["generator", "things", "left", "found"], defArgs (at_ 23), defBody (at_ 23), defScope (at_ 23)⟩
def d19 : Df := ⟨"_law_things", ["generator", "many"], ["generator", "many", "menus", "menu", "first"], defArgs (at_ 24), defBody (at_ 24), defScope (at_ 24)⟩
def d20 : Df := ⟨"_law_relations", ["generator"], ["generator", "menus"], defArgs (at_ 25), defBody (at_ 25), defScope (at_ 25)⟩
def d21 : Df := ⟨"_law_rows", ["things", "many"], ["things", "many", "rows", "turn", "row", "thing"], defArgs (at_ 26), defBody (at_ 26), defScope (at_ 26)⟩
def d22 : Df := ⟨"_law_spread", ["generator", "things", "relation", "often"], ["generator", "things", "relation", "often", "word", "places", "rows", "row", "turn", "place"], defArgs (at_ 27), defBody (at_ 27), defScope (at_ 27)⟩
def d23 : Df := ⟨"_law_links", ["generator", "things", "word"], ["generator", "things", "word", "order", "way", "pairs", "at", "pair", "thing"], defArgs (at_ 28), defBody (at_ 28), defScope (at_ 28)⟩
def d24 : Df := ⟨"_law_world", ["generator", "things", "relations"], ["generator", "things", "relations", "way", "often", "found", "relation"], defArgs (at_ 29), defBody (at_ 29), defScope (at_ 29)⟩
def d25 : Df := ⟨"_law_changed", ["generator", "world", "relations"], ["generator", "world", "relations", "things", "facts", "way", "word", "places", "one", "other", "fact", "place", "thing"], defArgs (at_ 30), defBody (at_ 30), defScope (at_ 30)⟩
def d26 : Df := ⟨"_law_marks", ["generator", "things", "many"], ["generator", "things", "many", "found", "turn"], defArgs (at_ 31), defBody (at_ 31), defScope (at_ 31)⟩
def d27 : Df := ⟨"_law_cases", ["generator", "many", "most", "marks", "relations"], ["generator", "many", "most", "marks", "relations", "found", "turn", "world"], defArgs (at_ 32), defBody (at_ 32), defScope (at_ 32)⟩
def d28 : Df := ⟨"_law_renamed", ["generator", "case"], ["generator", "case", "world", "marks", "old", "table", "facts", "fact", "at", "thing"], defArgs (at_ 33), defBody (at_ 33), defScope (at_ 33)⟩
def d29 : Df := ⟨"_law_drawn_cases", ["generator", "many", "most", "strength"], ["generator", "many", "most", "strength", "relations", "marks", "found", "number"], defArgs (at_ 34), defBody (at_ 34), defScope (at_ 34)⟩
def d30 : Df := ⟨"_law_is", ["told", "due"], ["told", "due"], defArgs (at_ 35), defBody (at_ 35), defScope (at_ 35)⟩
def d31 : Df := ⟨"_law_due_case", ["value"], ["value", "mark"], defArgs (at_ 36), defBody (at_ 36), defScope (at_ 36)⟩
def d32 : Df := ⟨"_law_due_pool", ["value"], ["value", "case"], defArgs (at_ 37), defBody (at_ 37), defScope (at_ 37)⟩
def d33 : Df := ⟨"_law_due_lot", ["value"], ["value"], defArgs (at_ 38), defBody (at_ 38), defScope (at_ 38)⟩
def d34 : Df := ⟨"_law_due_count", ["value"], ["value"], defArgs (at_ 39), defBody (at_ 39), defScope (at_ 39)⟩
def d35 : Df := ⟨"_law_due_strength", ["value"], ["value"], defArgs (at_ 40), defBody (at_ 40), defScope (at_ 40)⟩
def d36 : Df := ⟨"_law_near_cases", ["case"], ["case", "world", "marks", "things", "found"], defArgs (at_ 41), defBody (at_ 41), defScope (at_ 41)⟩
def d37 : Df := ⟨"_law_cases_right", ["generator"], ["generator", "cases", "relations", "marks", "near", "kept", "other", "pools", "value", "lots"], defArgs (at_ 42), defBody (at_ 42), defScope (at_ 42)⟩
def d38 : Df := ⟨"_law_strengths_right", ["generator"], ["generator", "numbers", "values", "turn", "at", "value", "one", "two"], defArgs (at_ 43), defBody (at_ 43), defScope (at_ 43)⟩
def d39 : Df := ⟨"law", ["script"], ["script", "index"], defArgs (at_ 44), defBody (at_ 44), defScope (at_ 44)⟩
def ds : List Df := [d0, d1, d2, d3, d4, d5, d6, d7, d8, d9, d10, d11, d12, d13, d14, d15, d16, d17, d18, d19, d20, d21, d22, d23, d24, d25, d26, d27, d28, d29, d30, d31, d32, d33, d34, d35, d36, d37, d38, d39]
def ft : List (Str × List Str) := fnTab ds
def gn : List Str := cs.map Gc.nm
theorem ok0 : defB ft gn f0 d0 = true := by decide +kernel -- is_count
theorem ok1 : defB ft gn f1 d1 = true := by decide +kernel -- is_spelled
theorem ok2 : defB ft gn f2 d2 = true := by decide +kernel -- is_name
theorem ok3 : defB ft gn f3 d3 = true := by decide +kernel -- is_derived_name
theorem ok4 : defB ft gn f4 d4 = true := by decide +kernel -- ascends
theorem ok5 : defB ft gn f5 d5 = true := by decide +kernel -- is_fact
theorem ok6 : defB ft gn f6 d6 = true := by decide +kernel -- is_told
theorem ok7 : defB ft gn f7 d7 = true := by decide +kernel -- are_things
theorem ok8 : defB ft gn f8 d8 = true := by decide +kernel -- is_world
theorem ok9 : defB ft gn f9 d9 = true := by decide +kernel -- is_case
theorem ok10 : defB ft gn f10 d10 = true := by decide +kernel -- is_pool
theorem ok11 : defB ft gn f11 d11 = true := by decide +kernel -- is_lot
theorem ok12 : defB ft gn f12 d12 = true := by decide +kernel -- is_strength
theorem ok13 : defB ft gn f13 d13 = true := by decide +kernel -- _law_hash
theorem ok14 : defB ft gn f14 d14 = true := by decide +kernel -- _law_random
theorem ok15 : defB ft gn f15 d15 = true := by decide +kernel -- _law_cell
theorem ok16 : defB ft gn f16 d16 = true := by decide +kernel -- _law_generator
theorem ok17 : defB ft gn f17 d17 = true := by decide +kernel -- _law_pick
theorem ok18 : defB ft gn f18 d18 = true := by decide +kernel -- _law_drawn_order
theorem ok19 : defB ft gn f19 d19 = true := by decide +kernel -- _law_things
theorem ok20 : defB ft gn f20 d20 = true := by decide +kernel -- _law_relations
theorem ok21 : defB ft gn f21 d21 = true := by decide +kernel -- _law_rows
theorem ok22 : defB ft gn f22 d22 = true := by decide +kernel -- _law_spread
theorem ok23 : defB ft gn f23 d23 = true := by decide +kernel -- _law_links
theorem ok24 : defB ft gn f24 d24 = true := by decide +kernel -- _law_world
theorem ok25 : defB ft gn f25 d25 = true := by decide +kernel -- _law_changed
theorem ok26 : defB ft gn f26 d26 = true := by decide +kernel -- _law_marks
theorem ok27 : defB ft gn f27 d27 = true := by decide +kernel -- _law_cases
theorem ok28 : defB ft gn f28 d28 = true := by decide +kernel -- _law_renamed
theorem ok29 : defB ft gn f29 d29 = true := by decide +kernel -- _law_drawn_cases
theorem ok30 : defB ft gn f30 d30 = true := by decide +kernel -- _law_is
theorem ok31 : defB ft gn f31 d31 = true := by decide +kernel -- _law_due_case
theorem ok32 : defB ft gn f32 d32 = true := by decide +kernel -- _law_due_pool
theorem ok33 : defB ft gn f33 d33 = true := by decide +kernel -- _law_due_lot
theorem ok34 : defB ft gn f34 d34 = true := by decide +kernel -- _law_due_count
theorem ok35 : defB ft gn f35 d35 = true := by decide +kernel -- _law_due_strength
theorem ok36 : defB ft gn f36 d36 = true := by decide +kernel -- _law_near_cases
theorem ok37 : defB ft gn f37 d37 = true := by decide +kernel -- _law_cases_right
theorem ok38 : defB ft gn f38 d38 = true := by decide +kernel -- _law_strengths_right
theorem ok39 : defB ft gn f39 d39 = true := by decide +kernel -- law
theorem more {fn : Fn} {d : Df} {fns : List Fn} {ds : List Df} (h : defB ft gn fn d = true) (t : tabB ft gn fns ds = true) : tabB ft gn (fn :: fns) (d :: ds) = true := by rw [tabB, h, t]; rfl
theorem hT : tabB (fnTab ds) (cs.map Gc.nm) tab.fns ds = true := (more ok0 (more ok1 (more ok2 (more ok3 (more ok4 (more ok5 (more ok6 (more ok7 (more ok8 (more ok9 (more ok10 (more ok11 (more ok12 (more ok13 (more ok14 (more ok15 (more ok16 (more ok17 (more ok18 (more ok19 (more ok20 (more ok21 (more ok22 (more ok23 (more ok24 (more ok25 (more ok26 (more ok27 (more ok28 (more ok29 (more ok30 (more ok31 (more ok32 (more ok33 (more ok34 (more ok35 (more ok36 (more ok37 (more ok38 (more ok39 rfl))))))))))))))))))))))))))))))))))))))))
theorem r0 (n : Nat) : tab.run (n + 1) 0 = f0.run (tab.run n) tab.gl := by funext vs; rfl
theorem r1 (n : Nat) : tab.run (n + 1) 1 = f1.run (tab.run n) tab.gl := by funext vs; rfl
theorem r2 (n : Nat) : tab.run (n + 1) 2 = f2.run (tab.run n) tab.gl := by funext vs; rfl
theorem r3 (n : Nat) : tab.run (n + 1) 3 = f3.run (tab.run n) tab.gl := by funext vs; rfl
theorem r4 (n : Nat) : tab.run (n + 1) 4 = f4.run (tab.run n) tab.gl := by funext vs; rfl
theorem r5 (n : Nat) : tab.run (n + 1) 5 = f5.run (tab.run n) tab.gl := by funext vs; rfl
theorem r6 (n : Nat) : tab.run (n + 1) 6 = f6.run (tab.run n) tab.gl := by funext vs; rfl
theorem r7 (n : Nat) : tab.run (n + 1) 7 = f7.run (tab.run n) tab.gl := by funext vs; rfl
theorem r8 (n : Nat) : tab.run (n + 1) 8 = f8.run (tab.run n) tab.gl := by funext vs; rfl
theorem r9 (n : Nat) : tab.run (n + 1) 9 = f9.run (tab.run n) tab.gl := by funext vs; rfl
theorem r10 (n : Nat) : tab.run (n + 1) 10 = f10.run (tab.run n) tab.gl := by funext vs; rfl
theorem r11 (n : Nat) : tab.run (n + 1) 11 = f11.run (tab.run n) tab.gl := by funext vs; rfl
theorem r12 (n : Nat) : tab.run (n + 1) 12 = f12.run (tab.run n) tab.gl := by funext vs; rfl
theorem r13 (n : Nat) : tab.run (n + 1) 13 = f13.run (tab.run n) tab.gl := by funext vs; rfl
theorem r14 (n : Nat) : tab.run (n + 1) 14 = f14.run (tab.run n) tab.gl := by funext vs; rfl
theorem r15 (n : Nat) : tab.run (n + 1) 15 = f15.run (tab.run n) tab.gl := by funext vs; rfl
theorem r16 (n : Nat) : tab.run (n + 1) 16 = f16.run (tab.run n) tab.gl := by funext vs; rfl
theorem r17 (n : Nat) : tab.run (n + 1) 17 = f17.run (tab.run n) tab.gl := by funext vs; rfl
theorem r18 (n : Nat) : tab.run (n + 1) 18 = f18.run (tab.run n) tab.gl := by funext vs; rfl
theorem r19 (n : Nat) : tab.run (n + 1) 19 = f19.run (tab.run n) tab.gl := by funext vs; rfl
theorem r20 (n : Nat) : tab.run (n + 1) 20 = f20.run (tab.run n) tab.gl := by funext vs; rfl
theorem r21 (n : Nat) : tab.run (n + 1) 21 = f21.run (tab.run n) tab.gl := by funext vs; rfl
theorem r22 (n : Nat) : tab.run (n + 1) 22 = f22.run (tab.run n) tab.gl := by funext vs; rfl
theorem r23 (n : Nat) : tab.run (n + 1) 23 = f23.run (tab.run n) tab.gl := by funext vs; rfl
theorem r24 (n : Nat) : tab.run (n + 1) 24 = f24.run (tab.run n) tab.gl := by funext vs; rfl
theorem r25 (n : Nat) : tab.run (n + 1) 25 = f25.run (tab.run n) tab.gl := by funext vs; rfl
theorem r26 (n : Nat) : tab.run (n + 1) 26 = f26.run (tab.run n) tab.gl := by funext vs; rfl
theorem r27 (n : Nat) : tab.run (n + 1) 27 = f27.run (tab.run n) tab.gl := by funext vs; rfl
theorem r28 (n : Nat) : tab.run (n + 1) 28 = f28.run (tab.run n) tab.gl := by funext vs; rfl
theorem r29 (n : Nat) : tab.run (n + 1) 29 = f29.run (tab.run n) tab.gl := by funext vs; rfl
theorem r30 (n : Nat) : tab.run (n + 1) 30 = f30.run (tab.run n) tab.gl := by funext vs; rfl
theorem r31 (n : Nat) : tab.run (n + 1) 31 = f31.run (tab.run n) tab.gl := by funext vs; rfl
theorem r32 (n : Nat) : tab.run (n + 1) 32 = f32.run (tab.run n) tab.gl := by funext vs; rfl
theorem r33 (n : Nat) : tab.run (n + 1) 33 = f33.run (tab.run n) tab.gl := by funext vs; rfl
theorem r34 (n : Nat) : tab.run (n + 1) 34 = f34.run (tab.run n) tab.gl := by funext vs; rfl
theorem r35 (n : Nat) : tab.run (n + 1) 35 = f35.run (tab.run n) tab.gl := by funext vs; rfl
theorem r36 (n : Nat) : tab.run (n + 1) 36 = f36.run (tab.run n) tab.gl := by funext vs; rfl
theorem r37 (n : Nat) : tab.run (n + 1) 37 = f37.run (tab.run n) tab.gl := by funext vs; rfl
theorem r38 (n : Nat) : tab.run (n + 1) 38 = f38.run (tab.run n) tab.gl := by funext vs; rfl
theorem r39 (n : Nat) : tab.run (n + 1) 39 = f39.run (tab.run n) tab.gl := by funext vs; rfl
theorem s0_0 : ∀ n, 1 ≤ n → Gs.CountS (tab.run n 0)
  | 0, h => absurd h (by decide)
  | n + 1, h => by rw [r0 n]; exact Gs.count_ok  -- is_count
theorem s1_0 : ∀ n, 1 ≤ n → Gs.SpelledS (tab.run n 1)
  | 0, h => absurd h (by decide)
  | n + 1, h => by rw [r1 n]; exact Gs.spelled_ok (show tab.gl[0]? = some _ from rfl) (show tab.gl[2]? = some _ from rfl) -- is_spelled
theorem s2_0 : ∀ n, 2 ≤ n → Gs.NameS (tab.run n 2)
  | 0, h => absurd h (by decide)
  | n + 1, h => by rw [r2 n]; exact Gs.name_ok (s1_0 n (by omega)) (show tab.gl[0]? = some _ from rfl) -- is_name
theorem s3_0 : ∀ n, 2 ≤ n → Gs.CapS (tab.run n 3)
  | 0, h => absurd h (by decide)
  | n + 1, h => by rw [r3 n]; exact Gs.cap_ok (s1_0 n (by omega)) (show tab.gl[1]? = some _ from rfl) -- is_derived_name
theorem s4_0 : ∀ n, 1 ≤ n → Gs.AscS (tab.run n 4)
  | 0, h => absurd h (by decide)
  | n + 1, h => by rw [r4 n]; exact Gs.ascends_ok  -- ascends
theorem s5_0 : ∀ n, 3 ≤ n → Gs.FactS (tab.run n 5)
  | 0, h => absurd h (by decide)
  | n + 1, h => by rw [r5 n]; exact Gs.fact_ok (s2_0 n (by omega)) (s3_0 n (by omega)) -- is_fact
theorem s6_0 : ∀ n, 4 ≤ n → Gs.ToldS (tab.run n 6)
  | 0, h => absurd h (by decide)
  | n + 1, h => by rw [r6 n]; exact Gs.told_ok (s5_0 n (by omega)) (s2_0 n (by omega)) -- is_told
theorem s7_0 : ∀ n, 3 ≤ n → Gs.AreThingsS (tab.run n 7)
  | 0, h => absurd h (by decide)
  | n + 1, h => by rw [r7 n]; exact Gs.arethings_ok (s4_0 n (by omega)) (s2_0 n (by omega)) -- are_things
theorem s8_0 : ∀ n, 5 ≤ n → Gs.WorldPS (tab.run n 8)
  | 0, h => absurd h (by decide)
  | n + 1, h => by rw [r8 n]; exact Gs.isworld_ok (s6_0 n (by omega)) (s4_0 n (by omega)) (s7_0 n (by omega)) -- is_world
theorem s9_0 : ∀ n, 6 ≤ n → Gs.CasePS (tab.run n 9)
  | 0, h => absurd h (by decide)
  | n + 1, h => by rw [r9 n]; exact Gs.iscase_ok (s8_0 n (by omega)) -- is_case
theorem s10_0 : ∀ n, 7 ≤ n → Gs.PoolS (tab.run n 10)
  | 0, h => absurd h (by decide)
  | n + 1, h => by rw [r10 n]; exact Gs.pool_ok (s9_0 n (by omega)) -- is_pool
theorem s11_0 : ∀ n, 8 ≤ n → Gs.LotS (tab.run n 11)
  | 0, h => absurd h (by decide)
  | n + 1, h => by rw [r11 n]; exact Gs.lot_ok (s10_0 n (by omega)) -- is_lot
theorem s12_0 : ∀ n, 2 ≤ n → Gs.StrengthS (tab.run n 12)
  | 0, h => absurd h (by decide)
  | n + 1, h => by rw [r12 n]; exact Gs.strength_ok (s0_0 n (by omega)) -- is_strength
theorem s13_0 : ∀ n, 1 ≤ n → Gs.HashS (tab.run n 13)
  | 0, h => absurd h (by decide)
  | n + 1, h => by rw [r13 n]; exact Gs.hash_ok  -- _law_hash
theorem s14_0 : ∀ n, 2 ≤ n → Gs.RandS (tab.run n 14)
  | 0, h => absurd h (by decide)
  | n + 1, h => by rw [r14 n]; exact Gs.random_ok (s13_0 n (by omega)) -- _law_random
theorem s15_0 : ∀ n, 1 ≤ n → Gs.CellS (tab.run n 15)
  | 0, h => absurd h (by decide)
  | n + 1, h => by rw [r15 n]; exact Gs.cell_ok  -- _law_cell
theorem s16_0 : ∀ n, 2 ≤ n → Gs.MakeS (tab.run n 16)
  | 0, h => absurd h (by decide)
  | n + 1, h => by rw [r16 n]; exact Gs.make_ok (s15_0 n (by omega)) -- _law_generator
theorem s17_0 : ∀ n, 3 ≤ n → Gs.PickS (tab.run n 17)
  | 0, h => absurd h (by decide)
  | n + 1, h => by rw [r17 n]; exact Gs.pick_ok (s14_0 n (by omega)) -- _law_pick
theorem s17_1 : ∀ n, 3 ≤ n → Gs.PickCS (tab.run n 17)
  | 0, h => absurd h (by decide)
  | n + 1, h => by rw [r17 n]; exact Gs.pickC_ok (s14_0 n (by omega)) -- _law_pick
theorem s18_0 : ∀ n, 3 ≤ n → Gs.OrderS (tab.run n 18)
  | 0, h => absurd h (by decide)
  | n + 1, h => by rw [r18 n]; exact Gs.order_ok (s14_0 n (by omega)) -- _law_drawn_order
theorem s19_0 : ∀ n, 4 ≤ n → Gs.ThingsS (tab.run n 19)
  | 0, h => absurd h (by decide)
  | n + 1, h => by rw [r19 n]; exact Gs.things_ok (s17_0 n (by omega)) (s14_0 n (by omega)) -- _law_things
theorem s20_0 : ∀ n, 3 ≤ n → Gs.RelS (tab.run n 20)
  | 0, h => absurd h (by decide)
  | n + 1, h => by rw [r20 n]; exact Gs.relations_ok (s14_0 n (by omega)) -- _law_relations
theorem s21_0 : ∀ n, 1 ≤ n → Gs.RowsS (tab.run n 21)
  | 0, h => absurd h (by decide)
  | n + 1, h => by rw [r21 n]; exact Gs.rows_ok  -- _law_rows
theorem s22_0 : ∀ n, 4 ≤ n → Gs.SpreadS (tab.run n 22)
  | 0, h => absurd h (by decide)
  | n + 1, h => by rw [r22 n]; exact Gs.spread_ok (s17_0 n (by omega)) (s14_0 n (by omega)) (s21_0 n (by omega)) -- _law_spread
theorem s23_0 : ∀ n, 4 ≤ n → Gs.LinksS (tab.run n 23)
  | 0, h => absurd h (by decide)
  | n + 1, h => by rw [r23 n]; exact Gs.links_ok (s18_0 n (by omega)) (s14_0 n (by omega)) -- _law_links
theorem s24_0 : ∀ n, 5 ≤ n → Gs.WorldS (tab.run n 24)
  | 0, h => absurd h (by decide)
  | n + 1, h => by rw [r24 n]; exact Gs.world_ok (s22_0 n (by omega)) (s14_0 n (by omega)) (s17_0 n (by omega)) (s23_0 n (by omega)) -- _law_world
theorem s25_0 : ∀ n, 4 ≤ n → Gs.ChangedS (tab.run n 25)
  | 0, h => absurd h (by decide)
  | n + 1, h => by rw [r25 n]; exact Gs.changed_ok (s14_0 n (by omega)) (s17_0 n (by omega)) -- _law_changed
theorem s26_0 : ∀ n, 4 ≤ n → Gs.MarksS (tab.run n 26)
  | 0, h => absurd h (by decide)
  | n + 1, h => by rw [r26 n]; exact Gs.marks_ok (s14_0 n (by omega)) (s17_0 n (by omega)) -- _law_marks
theorem s27_0 : ∀ n, 6 ≤ n → Gs.CasesS (tab.run n 27)
  | 0, h => absurd h (by decide)
  | n + 1, h => by rw [r27 n]; exact Gs.cases_ok (s26_0 n (by omega)) (s14_0 n (by omega)) (s25_0 n (by omega)) (s17_1 n (by omega)) (s24_0 n (by omega)) (s19_0 n (by omega)) -- _law_cases
theorem s28_0 : ∀ n, 4 ≤ n → Gs.RenamedS (tab.run n 28)
  | 0, h => absurd h (by decide)
  | n + 1, h => by rw [r28 n]; exact Gs.renamed_ok (s18_0 n (by omega)) -- _law_renamed
theorem s29_0 : ∀ n, 7 ≤ n → Gs.DrawnS (tab.run n 29)
  | 0, h => absurd h (by decide)
  | n + 1, h => by rw [r29 n]; exact Gs.drawn_ok (s14_0 n (by omega)) (s28_0 n (by omega)) (s27_0 n (by omega)) (s20_0 n (by omega)) -- _law_drawn_cases
theorem s30_0 : ∀ n, 1 ≤ n → Gs.IsS (tab.run n 30)
  | 0, h => absurd h (by decide)
  | n + 1, h => by rw [r30 n]; exact Gs.is_ok  -- _law_is
theorem s31_0 : ∀ n, 6 ≤ n → Gs.CasePS (tab.run n 31)
  | 0, h => absurd h (by decide)
  | n + 1, h => by rw [r31 n]; exact Gs.duecase_ok (s8_0 n (by omega)) -- _law_due_case
theorem s32_0 : ∀ n, 7 ≤ n → Gs.PoolS (tab.run n 32)
  | 0, h => absurd h (by decide)
  | n + 1, h => by rw [r32 n]; exact Gs.duepool_ok (s31_0 n (by omega)) -- _law_due_pool
theorem s33_0 : ∀ n, 8 ≤ n → Gs.LotS (tab.run n 33)
  | 0, h => absurd h (by decide)
  | n + 1, h => by rw [r33 n]; exact Gs.duelot_ok (s32_0 n (by omega)) -- _law_due_lot
theorem s34_0 : ∀ n, 1 ≤ n → Gs.CountS (tab.run n 34)
  | 0, h => absurd h (by decide)
  | n + 1, h => by rw [r34 n]; exact Gs.duecount_ok  -- _law_due_count
theorem s35_0 : ∀ n, 2 ≤ n → Gs.StrengthS (tab.run n 35)
  | 0, h => absurd h (by decide)
  | n + 1, h => by rw [r35 n]; exact Gs.duestrength_ok (s34_0 n (by omega)) -- _law_due_strength
theorem s36_0 : ∀ n, 1 ≤ n → Gs.NearS (tab.run n 36)
  | 0, h => absurd h (by decide)
  | n + 1, h => by rw [r36 n]; exact Gs.near_ok  -- _law_near_cases
theorem s37_0 : ∀ n, 9 ≤ n → Gs.AllS (tab.run n 37)
  | 0, h => absurd h (by decide)
  | n + 1, h => by rw [r37 n]; exact Gs.cases3_ok (s30_0 n (by omega)) (s11_0 n (by omega)) (s33_0 n (by omega)) (s9_0 n (by omega)) (s12_0 n (by omega)) (s10_0 n (by omega)) (s32_0 n (by omega)) (s31_0 n (by omega)) (s36_0 n (by omega)) (s29_0 n (by omega)) -- _law_cases_right
theorem s38_0 : ∀ n, 3 ≤ n → Gs.AllS (tab.run n 38)
  | 0, h => absurd h (by decide)
  | n + 1, h => by rw [r38 n]; exact Gs.strengths_ok (s30_0 n (by omega)) (s12_0 n (by omega)) (s35_0 n (by omega)) (s14_0 n (by omega)) -- _law_strengths_right
theorem s39_0 : ∀ n, 10 ≤ n → Gs.LawS (tab.run n 39)
  | 0, h => absurd h (by decide)
  | n + 1, h => by rw [r39 n]; exact Gs.law3_ok (s37_0 n (by omega)) (s16_0 n (by omega)) (s38_0 n (by omega)) -- law
theorem law_ok : ∀ ns : List Int, ns.length ≤ 63 → ∃ S', tab.run 40 39 [.scr ns] [] = .ok (.d (.bool true)) S' := fun ns _ => s39_0 40 (by decide) ns []
end K03
end
set_option Elab.async false
set_option linter.all false
set_option maxRecDepth 100000
set_option maxHeartbeats 0
namespace K03
open PySem PySem.Spec PyProof.Rows L2 Mp
abbrev Rw : PySem.W.OpenRow := PySem.W.OpenLaw.row PySem.Challenge.rw_taughtrules_k03_cases_lots_and_strengths
abbrev hk : PySem.W.Hook := hookM 4 (facts ds cs) (ds.map dfD)
def ob (s : PySem.W.SharedT) : He.AlD := obsMG 4 (facts ds cs) (ds.map dfD) (HandSHeadRun.getT s)
theorem ob_eq (s : PySem.W.SharedT) : ob s = hk.obs s.abs := obsMG_eq (HandSHeadRun.getT_eq s)
theorem run (w : World) : HandSHeadRun.RunEq Rw (PySem.W.view Rw.prog [44]) hk ob 2000 ([("SMALL" : PySem.Str), ("CAPITAL" : PySem.Str), ("FIGURES" : PySem.Str), ("is_count" : PySem.Str), ("is_spelled" : PySem.Str), ("is_name" : PySem.Str), ("is_derived_name" : PySem.Str), ("ascends" : PySem.Str), ("is_fact" : PySem.Str), ("is_told" : PySem.Str), ("are_things" : PySem.Str), ("is_world" : PySem.Str), ("is_case" : PySem.Str), ("is_pool" : PySem.Str), ("is_lot" : PySem.Str), ("is_strength" : PySem.Str), ("_law_hash" : PySem.Str), ("_law_random" : PySem.Str), ("_law_cell" : PySem.Str), ("_law_generator" : PySem.Str), ("_law_pick" : PySem.Str), ("_law_drawn_order" : PySem.Str), ("_law_things" : PySem.Str), ("_law_relations" : PySem.Str), ("_law_rows" : PySem.Str), ("_law_spread" : PySem.Str), ("_law_links" : PySem.Str), ("_law_world" : PySem.Str), ("_law_changed" : PySem.Str), ("_law_marks" : PySem.Str), ("_law_cases" : PySem.Str), ("_law_renamed" : PySem.Str), ("_law_drawn_cases" : PySem.Str), ("_law_is" : PySem.Str), ("_law_due_case" : PySem.Str), ("_law_due_pool" : PySem.Str), ("_law_due_lot" : PySem.Str), ("_law_due_count" : PySem.Str), ("_law_due_strength" : PySem.Str), ("_law_near_cases" : PySem.Str), ("_law_cases_right" : PySem.Str), ("_law_strengths_right" : PySem.Str)] : List PySem.Str) w := by
  intro os
  kernel_rfl
end K03
open PySem PySem.W PySem.Calls PyProof.Rows
theorem PySem.Challenge.cw_taughtrules_k03_cases_lots_and_strengths_holds : PySem.Challenge.rw_taughtrules_k03_cases_lots_and_strengths.Holds := by
  w_on; o_law
  refine HandSHeadRun.head_any (r := OpenLaw.row PySem.Challenge.rw_taughtrules_k03_cases_lots_and_strengths) (q := view (OpenLaw.row PySem.Challenge.rw_taughtrules_k03_cases_lots_and_strengths).prog [44]) (H := K03.hk) (ob := K03.ob) (M := 2000) (loose := ([("SMALL" : PySem.Str), ("CAPITAL" : PySem.Str), ("FIGURES" : PySem.Str), ("is_count" : PySem.Str), ("is_spelled" : PySem.Str), ("is_name" : PySem.Str), ("is_derived_name" : PySem.Str), ("ascends" : PySem.Str), ("is_fact" : PySem.Str), ("is_told" : PySem.Str), ("are_things" : PySem.Str), ("is_world" : PySem.Str), ("is_case" : PySem.Str), ("is_pool" : PySem.Str), ("is_lot" : PySem.Str), ("is_strength" : PySem.Str), ("_law_hash" : PySem.Str), ("_law_random" : PySem.Str), ("_law_cell" : PySem.Str), ("_law_generator" : PySem.Str), ("_law_pick" : PySem.Str), ("_law_drawn_order" : PySem.Str), ("_law_things" : PySem.Str), ("_law_relations" : PySem.Str), ("_law_rows" : PySem.Str), ("_law_spread" : PySem.Str), ("_law_links" : PySem.Str), ("_law_world" : PySem.Str), ("_law_changed" : PySem.Str), ("_law_marks" : PySem.Str), ("_law_cases" : PySem.Str), ("_law_renamed" : PySem.Str), ("_law_drawn_cases" : PySem.Str), ("_law_is" : PySem.Str), ("_law_due_case" : PySem.Str), ("_law_due_pool" : PySem.Str), ("_law_due_lot" : PySem.Str), ("_law_due_count" : PySem.Str), ("_law_due_strength" : PySem.Str), ("_law_near_cases" : PySem.Str), ("_law_cases_right" : PySem.Str), ("_law_strengths_right" : PySem.Str)] : List PySem.Str)) (d := HandSHeadRun.topDef (OpenLaw.row PySem.Challenge.rw_taughtrules_k03_cases_lots_and_strengths).prog 44) (kwd := []) K03.ob_eq
    (by kernel_rfl) (fun s => by kernel_rfl) K03.run (by kernel_rfl) (by kernel_rfl) (by kernel_rfl) (by rfl) (by first | assumption | decide +kernel) (by decide +kernel) ⟨rfl, rfl, rfl, rfl, rfl, by decide +kernel⟩ ?hw ?hc
  case hw => w_witness2
  case hc =>
    exact Mp.walk_m (l := PySem.Challenge.rw_taughtrules_k03_cases_lots_and_strengths) (n := 63) (k := 40) (j := 39) (m := 4) (T := K03.tab) (ds := K03.ds) (cs := K03.cs) (dl := K03.d39) rfl (by decide) (by kernel_rfl) ⟨rfl, by decide, by decide⟩ rfl K03.hT rfl rfl (by kernel_rfl) K03.law_ok
