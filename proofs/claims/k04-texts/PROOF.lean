import PyProof.Rows.All
import Wide.All
import OpenK.AllK
import Wide.FinOn
import HandS.ForMost
import HandS.TupSets
import HandS.SetFor
import KE.KDictKeyed
import HandS.Exc
import HandS.TryOnly
import HandS.ExcOwn
import HandS.IsInst
import HandS.Defaults
import HandS.Wide
import HandS.HeadHook2
import KE.DataCmp
import KE.SortData
import HandS.HeadEnd
import HandS.Deep
import HandS.TupAny
import HandS.ExcIs
import HandS.TryMany
import HandS.SortInts
import HandS.Style
import HandS.Text
import HandS.Set
import HandS.Strs
import KE.KDictDisplayH
import HandS.Dict
import HandS.Conv
import HandS.More
import HandS.Ends
import HandS.Head0
import HandS.Head1
import HandS.Head2
import PyProof.StrLawsTight
import PySem.Challenge.RW_pacthall_k04_texts_refused
set_option Elab.async false
set_option linter.all false
set_option maxRecDepth 100000
/-! VM22: a set's table, whatever tuples stand in it. -/
namespace VM
open PySem PySem.Spec L2
open PyProof.Rows hiding St

/-- things a set may hold: a kind of keys, and what the set asks beyond -/
structure EK (P : Program) (w : World) (K : Type) [DecidableEq K] where
  kd : HeapKind P w K
  st : kd.Stays
  hb : ∀ {A : Around} {E : Value → Shared → Prop} {s : Shared} {k : K} {a : Addr} {Q : Bool → Shared → Prop}, kd.is s.heap k a → (∀ b, Q b s) → wpAny (model P w) A (hashByValue 8 (.ref a)) Q E s
  oc : ∀ {A : Around} {E : Value → Shared → Prop} {s : Shared} {k : K} {a : Addr} {Q : Bool → Shared → Prop}, kd.is s.heap k a → Q false s → wpAny (model P w) A (ofAClassStatement 8 (.ref a)) Q E s

section
variable {P : Program} {w : World} {K : Type} [DecidableEq K] (D : EK P w K)
abbrev EK.hs (k : K) : Int := D.kd.hash k
def EK.row (p : Addr × K) : Int × Value := (D.hs p.2, .ref p.1)
structure EK.Tab (h : Heap) (a : Addr) (L : List (Addr × K)) (es : Array (Int × Value)) (t : SetTable) : Prop where
  obj : ∃ o ep, h.get? a = some o ∧ o.ExactSet ∧ o.data = .set es ep t
  rows : es.toList = L.map D.row
  tab : TabOk t (L.map fun p => D.hs p.2)
  nd : (L.map (·.2)).Nodup
  tup : ∀ p ∈ L, D.kd.is h p.2 p.1
  led : w.params.followText "set-order" = true ∨ t.led = true
  room : L.length * 5 < t.mask * 3
  few : L.length < 64
variable {D} {A : Around} {E : Value → Shared → Prop} {s : Shared} {a : Addr} {L : List (Addr × K)} {es : Array (Int × Value)} {t : SetTable}
theorem rows_len {l : List (Int × Value)} (e : l = L.map D.row) : l.length = L.length := by rw [e, List.length_map]
theorem fits_of {n : Nat} (e1 : t.place.size = n) (e2 : t.dummies = #[]) (le : n ≤ t.mask) : t.fits n = true := by
  unfold SetTable.fits SetTable.fill
  rw [e2, e1, Bool.and_eq_true, beq_iff_eq, decide_eq_true_eq]
  exact ⟨rfl, le⟩
namespace EK.Tab
variable (R : D.Tab s.heap a L es t)
include R
theorem sz : es.size = L.length := by
  have q := rows_len R.rows
  rwa [Array.length_toList] at q
theorem psz : t.place.size = L.length := by
  have q := R.tab.sz
  rwa [List.length_map] at q
theorem fits : t.fits es.size = true := fits_of (by rw [R.psz, R.sz]) R.tab.dm (by have := R.room; have := R.sz; omega)
theorem at_ {i : Nat} {p : Addr × K} (e : L[i]? = some p) : es[i]? = some (D.row p) := by
  have q : es.toList[i]? = some (D.row p) := by rw [R.rows, List.getElem?_map, e, Option.map_some]
  rwa [Array.getElem?_toList] at q
theorem on : ¬ t.gaveWay = true := by
  unfold SetTable.gaveWay
  rw [mask_odd R.tab.mok]
  decide
end EK.Tab
/-- tuples show nothing -/
theorem seen_no {x : Addr} {k : K} {ys : List Value} {Q : Bool → Shared → Prop} (hx : D.kd.is s.heap k x) (hy : ∀ y ∈ ys, ∃ k' c, y = .ref c ∧ D.kd.is s.heap k' c) (h : Q false s) : wpAny (model P w) A (searchCouldBeSeen (.ref x) ys) Q E s := by
  unfold searchCouldBeSeen
  refine wpAny_bind (wpAny_forIn_list _ (fun l r z => z = s ∧ r.1 = none ∧ ∀ y ∈ l, ∃ k' c, y = .ref c ∧ D.kd.is s.heap k' c) _ ?_ ?_ _ _ ⟨rfl, rfl, hy⟩)
  · intro v l r z ⟨ez, er, al⟩
    subst ez
    obtain ⟨k', c, ev, hc⟩ := al v List.mem_cons_self
    subst ev
    have al' := fun u hu => al u (List.mem_cons_of_mem _ hu)
    dsimp only
    cases hq : (x == c || (carriedByValue (.ref x) && carriedByValue (.ref c))) with
    | true => exact wp_if_pos rfl (wpAny_pure ⟨rfl, rfl, al'⟩)
    | false =>
      refine wp_if_neg (by decide) (wpAny_bind (D.kd.quiet hx ?_))
      rw [Bool.not_true]
      refine wp_if_neg (by decide) (wpAny_bind (D.kd.quiet hc ?_))
      rw [Bool.not_true]
      refine wp_if_neg (by decide) (wpAny_bind (D.oc hx ?_))
      refine wp_if_neg (by decide) (wpAny_bind (D.oc hc ?_))
      exact wp_if_neg (by decide) (wpAny_pure ⟨rfl, rfl, al'⟩)
  · intro r z ⟨ez, er, _⟩
    subst ez
    obtain ⟨r1, r2⟩ := r
    dsimp only at er
    subst er
    exact wpAny_pure h
/-- where the search stands at its c-th step -/
abbrev stp (t : SetTable) (h : Int) (c : Nat) : SetTable.Probe := nth t.mask (runAt t.mask (SetTable.bits h % (t.mask + 1)) (SetTable.bits h)) c
theorem stp_dm (t : SetTable) (h : Int) (c : Nat) : (stp t h c).dummy = none := by
  have go : ∀ (n : Nat) (p : SetTable.Probe), p.dummy = none → (nth t.mask p n).dummy = none := fun n => by
    induction n with
    | zero => exact fun p e => e
    | succ n ih => exact fun p e => ih _ (by unfold adv; split <;> exact e)
  exact go c _ rfl
theorem stp_add (t : SetTable) (h : Int) (c q : Nat) : nth t.mask (stp t h c) q = stp t h (c + q) := (nth_add t.mask c _ q).symm
section
variable (R : D.Tab s.heap a L es t) {x : Addr} {k : K} (hx : D.kd.is s.heap k x) (hu : D.kd.room A)
  {N : Nat} (hN : N < 10 * SetTable.turns t.mask) (free : way t.mask (D.hs k) N ∉ t.place.toList) (full : ∀ c, c < N → way t.mask (D.hs k) c ∈ t.place.toList)
  {Q : SetFound → Shared → Prop} (q1 : k ∈ L.map (·.2) → Q (.there none) s) (q2 : k ∉ L.map (·.2) → Q (.free (way t.mask (D.hs k) N) false) s)
include R hx hu hN free full q1 q2
theorem walk : ∀ (f c : Nat) (st : Option SetTable.Probe), st.getD (t.probeStart (D.hs k)) = stp t (D.hs k) c → c ≤ N → N < c + f →
    (∀ (i : Nat) (p : Addr × K), L[i]? = some p → p.2 = k → ∃ c', c ≤ c' ∧ c' < N ∧ t.place.toList[i]? = some (way t.mask (D.hs k) c')) → wpAny (model P w) A (setSearchFrom a (.ref x) (D.hs k) true f st) Q E s := by
  intro f
  induction f with
  | zero => intro c st _ h1 h2 _; omega
  | succ f ih =>
    intro c st e hc hf ahead
    obtain ⟨o, ep, ho, hex, hd⟩ := R.obj
    have hash : ∀ {i : Nat} {p : Addr × K}, L[i]? = some p → ((es[i]?.map (·.1)).getD 0) = D.hs p.2 := fun h => by
      rw [R.at_ h, Option.map_some, Option.getD_some] <;> rfl
    rw [setSearchFrom_succ]
    refine wpAny_bind (wpAny_setState_of ho hd R.fits ?_)
    dsimp only
    refine wp_if_neg R.on ?_
    rw [e]
    have jj : ∀ q, (nth t.mask (stp t (D.hs k) c) q).j = way t.mask (D.hs k) (c + q) := fun q => by rw [stp_add]
    have end_ : c + (N - c) = N := by omega
    rcases go_spec t R.tab.ris R.tab.dm (fun i => (es[i]?.map (·.1)).getD 0) (D.hs k) (10 * SetTable.turns t.mask) (N - c) (stp t (D.hs k) c) (stp_dm t _ c) (by omega) (fun q h => by rw [jj]; exact full _ (by omega))
      (by rw [jj, end_]; exact free) with ⟨q, i, hq, hi, hh, before, met⟩ | ⟨none_, met⟩
    · have pe : t.probe (fun i => (es[i]?.map (·.1)).getD 0) (D.hs k) (stp t (D.hs k) c) = some (.candidate (way t.mask (D.hs k) (c + q)) i (stp t (D.hs k) (c + (q + 1)))) := by
        rw [← jj, ← stp_add]
        exact met
      rw [pe]
      dsimp only
      rw [jj] at hi
      have lt : i < L.length := by
        have z := (List.getElem?_eq_some_iff.mp hi).1
        rwa [Array.length_toList, R.psz] at z
      obtain ⟨p, hp⟩ : ∃ p, L[i]? = some p := ⟨_, List.getElem?_eq_getElem lt⟩
      have pm := List.mem_of_getElem? hp
      have live := slot_live R.tab.ris hi
      have tail : wpAny (model P w) A (searchRest a (.ref x) (D.hs k) true f es t (way t.mask (D.hs k) (c + q)) i (stp t (D.hs k) (c + (q + 1)))) Q E s := by
        unfold searchRest
        rw [R.at_ hp]
        unfold EK.row
        dsimp only
        refine wpAny_bind (wpAny_holding (D.kd.eqBool hu (R.tup p pm) hx ?_))
        refine wpAny_bind (wpAny_setState_of ho hd R.fits ?_)
        dsimp only
        by_cases same : p.2 = k
        · exact wp_if_pos (by rw [decide_eq_true same]; rfl) (wpAny_pure (q1 (List.mem_map.mpr ⟨p, pm, same⟩)))
        · have off : decide (p.2 = k) = false := decide_eq_false same
          rw [off]
          refine wp_if_neg (by decide) ?_
          rw [sameMem]
          dsimp only
          rw [if_pos rfl, live]
          dsimp only
          rw [R.at_ hp]
          unfold EK.row
          dsimp only
          refine wpAny_bind (wpAny_isSame_ref_self (wpAny_bind (wpAny_pure ?_)))
          rw [if_pos rfl]
          dsimp only
          refine wp_if_neg (by decide) (ih (c + (q + 1)) _ rfl (by omega) (by omega) fun i' p' h' k' => ?_)
          obtain ⟨c', z1, z2, z3⟩ := ahead i' p' h' k'
          refine ⟨c', Classical.byContradiction fun n => ?_, z2, z3⟩
          have le : c' ≤ c + q := by omega
          rcases Nat.lt_or_eq_of_le le with lt' | eq'
          · exact before (c' - c) i' (by omega) (by rw [jj, show c + (c' - c) = c' by omega]; exact z3) (by show ((es[i']?.map (·.1)).getD 0) = _; rw [hash h', k'])
          · subst eq'
            have l2 := slot_live R.tab.ris z3
            rw [live] at l2
            injection l2 with l2
            subst l2
            rw [hp] at h'
            cases h'
            exact same k'
      cases hl : t.led with
      | true => exact wp_if_neg (by decide) tail
      | false =>
        refine wp_if_pos (by decide) (wpAny_bind (seen_no hx (fun y hy => ?_) (wp_if_neg (by decide) tail)))
        obtain ⟨e1, m1, rfl⟩ := List.mem_map.mp hy
        have m2 : e1 ∈ es.toList := by
          have := (show e1 ∈ es ∧ _ by simpa using m1).1
          simpa using this
        rw [R.rows] at m2
        obtain ⟨p2, m3, rfl⟩ := List.mem_map.mp m2
        exact ⟨p2.2, p2.1, rfl, R.tup p2 m3⟩
    · have pe : t.probe (fun i => (es[i]?.map (·.1)).getD 0) (D.hs k) (stp t (D.hs k) c) = some (.empty (way t.mask (D.hs k) N) none) := by
        have z := jj (N - c)
        rw [end_] at z
        rw [← z]
        exact met
      rw [pe]
      refine wpAny_pure (q2 fun hm => ?_)
      obtain ⟨p0, m0, k0⟩ := List.mem_map.mp hm
      obtain ⟨i0, lt0, e0⟩ := List.getElem_of_mem m0
      have g0 : L[i0]? = some p0 := by rw [← e0]; exact List.getElem?_eq_getElem lt0
      obtain ⟨c', z1, z2, z3⟩ := ahead i0 p0 g0 k0
      exact none_ (c' - c) i0 (by omega) (by rw [jj, show c + (c' - c) = c' by omega]; exact z3) (by show ((es[i0]?.map (·.1)).getD 0) = _; rw [hash g0, k0])
end
/-- adding asks for it -/
theorem find_new (R : D.Tab s.heap a L es t) {x : Addr} {k : K} (hx : D.kd.is s.heap k x) (hu : D.kd.room A) {Q : SetFound → Shared → Prop} (q1 : k ∈ L.map (·.2) → Q (.there none) s)
    (q2 : ∀ N, k ∉ L.map (·.2) → way t.mask (D.hs k) N ∉ t.place.toList → (∀ c, c < N → way t.mask (D.hs k) c ∈ t.place.toList) → Q (.free (way t.mask (D.hs k) N) false) s) :
    wpAny (model P w) A (setSearch a (.ref x) (D.hs k) true) Q E s := by
  have rm := R.room
  obtain ⟨N, lt, fr, fu⟩ := R.tab.first (by rw [List.length_map]; omega) (D.hs k)
  have small : 10 * SetTable.turns t.mask ≤ 1420 := by
    unfold SetTable.turns
    rcases R.tab.mok with e | e | e <;> rw [e] <;> omega
  unfold setSearch
  refine walk R hx hu lt fr fu q1 (fun nm => q2 N nm fr fu) 100000 0 none rfl (Nat.zero_le _) (by omega) fun i p hp hk => ?_
  have l1 : i < t.place.toList.length := by rw [Array.length_toList, R.psz]; exact (List.getElem?_eq_some_iff.mp hp).1
  have g := List.getElem?_eq_getElem l1
  obtain ⟨c, hc, e⟩ := R.tab.before fr (i := i) (h := D.hs k) (by rw [List.getElem?_map, hp, Option.map_some, hk]) g
  exact ⟨c, Nat.zero_le _, hc, by rw [e]; exact g⟩
theorem is_same {h h' : Heap} {k : K} {b : Addr} {o : Obj} {ep : Nat} (hb : D.kd.is h k b) (ho : h.get? a = some o) (hd : o.data = .set es ep t) (hs : Heap.SameBut a h h') : D.kd.is h' k b := by
  refine D.st.stays (fun c q vs n e1 e2 => ?_) hb
  have ne : c ≠ a := fun e => by
    subst e
    rw [ho] at e1
    cases e1
    rw [hd] at e2
    cases e2
  rw [hs.2 c ne]
  exact e1
/-- what is taken of a list by places -/
theorem picked {α β : Type} (f : α → β) (l : List α) : ∀ ns : List Nat, (∀ i ∈ ns, i < l.length) → ns.filterMap (fun i => (l.map f)[i]?) = (ns.filterMap fun i => l[i]?).map f
  | [], _ => rfl
  | i :: ns, h => by
    have lt := h i List.mem_cons_self
    have r := picked f l ns fun j hj => h j (List.mem_cons_of_mem _ hj)
    rw [List.filterMap_cons_some (b := f l[i]) (by rw [List.getElem?_map, List.getElem?_eq_getElem lt, Option.map_some]), List.filterMap_cons_some (b := l[i]) (List.getElem?_eq_getElem lt), r, List.map_cons]
theorem picked_all {α : Type} (l : List α) : (List.range l.length).filterMap (fun i => l[i]?) = l := by
  apply List.ext_getElem?
  induction l with
  | nil => intro i; rfl
  | cons x l ih =>
    intro i
    rw [List.length_cons, List.range_succ_eq_map, List.filterMap_cons, List.filterMap_map]
    show (x :: List.filterMap (fun i => l[i]?) (List.range l.length))[i]? = _
    cases i with
    | zero => rfl
    | succ i => rw [List.getElem?_cons_succ, List.getElem?_cons_succ, ← ih i]
theorem picked_get {α : Type} (f : α → Int) (l : List α) : ∀ ns : List Nat, (∀ i ∈ ns, i < l.length) → (ns.filterMap fun i => l[i]?).map f = ns.map fun i => ((l.map f)[i]?).getD 0
  | [], _ => rfl
  | i :: ns, h => by
    have lt := h i List.mem_cons_self
    have r := picked_get f l ns fun j hj => h j (List.mem_cons_of_mem _ hj)
    rw [List.filterMap_cons_some (b := l[i]) (List.getElem?_eq_getElem lt), List.map_cons, List.map_cons, r, List.getElem?_map, List.getElem?_eq_getElem lt, Option.map_some, Option.getD_some]
/-- the table laid anew -/
theorem lay_new {o : Obj} {ep : Nat} (ho : s.heap.get? a = some o) (hex : o.ExactSet) (hd : o.data = .set es ep t) (hr : es.toList = L.map D.row) (e1 : t.place.size = es.size) (e2 : t.dummies = #[]) (le : es.size ≤ t.mask)
    (nd : (L.map (·.2)).Nodup) (tup : ∀ p ∈ L, D.kd.is s.heap p.2 p.1) (ld : w.params.followText "set-order" = true ∨ t.led = true) (few : L.length < 64) {n M : Nat} (hw : SetTable.sizeAbove n - 1 = M) (hM : MaskOk M)
    (hw2 : SetTable.sizeAbove n ≤ 128) (hn : L.length * 5 < M * 3) {Q : Unit → Shared → Prop} (hQ : ∀ h' L' es' t', Heap.SameBut a s.heap h' → D.Tab h' a L' es' t' → L'.Perm L → Q () { s with heap := h' }) :
    wpAny (model P w) A (setRelay a n) Q E s := by
  have zl : es.size = L.length := by
    have q := rows_len hr
    rwa [Array.length_toList] at q
  obtain ⟨t', ord, er, pm, T, em, el, _, _⟩ := relaid_ok t (hs := es.map (·.1)) (wanted := n) hw hM (by rw [Array.size_map]; omega)
  rw [Array.size_map, zl] at pm
  have inside : ∀ i ∈ ord.toList, i < L.length := fun i hi => List.mem_range.mp (pm.mem_iff.mp hi)
  generalize hL2 : ord.toList.filterMap (fun i => L[i]?) = L2
  have p2 : L2.Perm L := by
    have q := pm.filterMap fun i => L[i]?
    rw [hL2, picked_all] at q
    exact q
  have r2 : (ord.filterMap (es[·]?)).toList = L2.map D.row := by
    have q : (ord.filterMap (es[·]?)).toList = ord.toList.filterMap fun i => es.toList[i]? := by
      rw [Array.toList_filterMap]
      exact congrArg (fun f => List.filterMap f ord.toList) (funext fun i => by rw [Array.getElem?_toList])
    rw [q, hr, picked D.row L _ inside, hL2]
  have T2 : TabOk t' (L2.map fun p => D.hs p.2) := by
    rw [← hL2, picked_get (fun p : Addr × K => D.hs p.2) L _ inside]
    have q : (ord.toList.map fun i => ((L.map fun p => D.hs p.2)[i]?).getD 0) = ord.toList.map fun i => (es.map (·.1)).getD i 0 := List.map_congr_left fun i hi => by
      have g : es.toList[i]? = (L.map D.row)[i]? := by rw [hr]
      rw [Array.getD_eq_getD_getElem?, Array.getElem?_map, ← Array.getElem?_toList, g, List.getElem?_map, List.getElem?_map]
      cases L[i]? <;> rfl
    rw [q]
    exact T
  have z2 : (ord.filterMap (es[·]?)).size = es.size := by
    have q := rows_len r2
    rw [Array.length_toList, p2.length_eq] at q
    omega
  rw [setRelay_eq]
  refine wpAny_bind (wpAny_setState_of ho hd (fits_of e1 e2 le) ?_)
  refine wp_if_neg (by rw [sizeLine_eq]; omega) ?_
  rw [er]
  dsimp only
  refine wpAny_bind (wp_if_neg (by rw [z2, bne_self_eq_false]; decide) (wpAny_pure ?_))
  have sb : Heap.SameBut a s.heap (s.heap.update a (Obj.putSet (ord.filterMap (es[·]?)) t')) := Heap.SameBut.update ..
  refine wpAny_storeSet_of ho hd (hQ _ L2 _ t' sb ⟨⟨_, _, store_at ho hd, ⟨hex.1, hex.2.1, hex.2.2⟩, rfl⟩, r2, T2, (p2.map (·.2)).nodup_iff.mpr nd, fun p hp => is_same (tup p (p2.mem_iff.mp hp)) ho hd sb, by rw [el]; exact ld, ?_, ?_⟩ p2) (by rw [z2, zl, sizeLine_eq]; omega)
  · rw [p2.length_eq, em]; exact hn
  · rw [p2.length_eq]; exact few
theorem ins_perm {α : Type} (l : List α) (n : Nat) (x : α) : (l.take n ++ x :: l.drop n).Perm (x :: l) := by
  have q := (List.perm_middle (l₁ := l.take n) (l₂ := l.drop n) (a := x))
  rwa [List.take_append_drop] at q
/-- one more -/
theorem add_one (R : D.Tab s.heap a L es t) {x : Addr} {k : K} (hx : D.kd.is s.heap k x) (hu : D.kd.room A) (few : L.length + 1 < 64) {Q : Bool → Shared → Prop}
    (hQ : ∀ b h' L' es' t', Heap.SameBut a s.heap h' → D.Tab h' a L' es' t' → (k ∈ L.map (·.2) → L' = L) → (k ∉ L.map (·.2) → L'.Perm ((x, k) :: L)) → Q b { s with heap := h' }) :
    wpAny (model P w) A (setAddHashed a (.ref x) (D.hs k)) Q E s := by
  obtain ⟨o, ep, ho, hex, hd⟩ := R.obj
  have zl := R.sz
  have rm := R.room
  unfold setAddHashed
  refine wpAny_holding ?_
  rw [show (100000 : Nat) = 99999 + 1 from rfl, setAddHashedIn_succ]
  refine wpAny_bind (wpAny_setState_of ho hd R.fits (wp_if_neg (by unfold byScan Value.scannable; simp) (wpAny_bind (find_new R hx hu (fun hm => ?_) fun N nm fr fu => ?_))))
  · exact wpAny_pure (hQ false s.heap L es t (Heap.SameBut.refl a s.heap) R (fun _ => rfl) fun n => (n hm).elim)
  refine wpAny_bind (wpAny_setState_of ho hd R.fits ?_)
  obtain ⟨c1, c2, c3, c4, c5, c6, c7, c8, c9⟩ := R.tab.put fr fu
  dsimp only
  generalize ht : t.put (way t.mask (D.hs k) N) = tp at c1 c3 c4 c5 c6 c7 c8 c9 ⊢
  generalize SetTable.below t.place (way t.mask (D.hs k) N) = n at c1 c2 c3
  obtain ⟨t1, n1⟩ := tp
  dsimp only at c1 c3 c4 c5 c6 c7 c8 c9 ⊢
  subst c1
  have pm := ins_perm L n1 (x, k)
  have new : (SetTable.insertAt es n1 (D.hs k, Value.ref x)).toList = (L.take n1 ++ (x, k) :: L.drop n1).map D.row := by
    rw [SetTable.toList_insertAt, R.rows, List.map_append, List.map_cons, List.map_take, List.map_drop] <;> rfl
  have hh : (L.take n1 ++ (x, k) :: L.drop n1).map (fun p => D.hs p.2) = (L.map fun p => D.hs p.2).take n1 ++ D.hs k :: (L.map fun p => D.hs p.2).drop n1 := by rw [List.map_append, List.map_cons, List.map_take, List.map_drop]
  rw [← hh] at c3
  generalize SetTable.insertAt es n1 (D.hs k, Value.ref x) = es1 at new ⊢
  generalize L.take n1 ++ (x, k) :: L.drop n1 = L1 at pm c3 new
  have l1 : L1.length = L.length + 1 := pm.length_eq
  have z1 : es1.size = L1.length := by
    have q := rows_len new
    rwa [Array.length_toList] at q
  have nd1 : (L1.map (·.2)).Nodup := (pm.map (·.2)).nodup_iff.mpr (List.nodup_cons.mpr ⟨nm, R.nd⟩)
  -- whichever table is stored
  have fin : ∀ t2 : SetTable, t2.mask = t1.mask → t2.led = t1.led → t2.place = t1.place → t2.dummies = t1.dummies → t2.tooFull = t1.tooFull → TabOk t2 (L1.map fun p => D.hs p.2) →
      wpAny (model P w) A (do
        storeSet a es1 t2
        if (!false && t2.tooFull) = true then setRelay a (SetTable.grown (es.size + 1))
        return true) Q E s := fun t2 m1 m2 m3 m4 m5 T2 => by
    refine wpAny_bind (wpAny_storeSet_of ho hd ?_ (by rw [z1, sizeLine_eq]; omega))
    have sb : Heap.SameBut a s.heap (s.heap.update a (Obj.putSet es1 t2)) := Heap.SameBut.update ..
    have ho1 := store_at (es' := es1) (t' := t2) ho hd
    have tup1 : ∀ p ∈ L1, D.kd.is (s.heap.update a (Obj.putSet es1 t2)) p.2 p.1 := fun p hp => by
      rcases List.mem_cons.mp (pm.mem_iff.mp hp) with e | hp
      · subst e; exact is_same hx ho hd sb
      · exact is_same (R.tup p hp) ho hd sb
    have led1 : w.params.followText "set-order" = true ∨ t2.led = true := by rw [m2, c5]; exact R.led
    have full : t2.tooFull = decide ((L.length + 1) * 5 ≥ t.mask * 3) := by
      rw [m5]
      unfold SetTable.tooFull
      rw [c9, c4, List.length_map]
    have mk : t2.mask = t.mask := m1.trans c4
    cases hf : t2.tooFull with
    | false =>
      refine wp_if_neg (by decide) (wpAny_pure (hQ true _ L1 es1 t2 sb ⟨⟨_, _, ho1, ⟨hex.1, hex.2.1, hex.2.2⟩, rfl⟩, new, T2, nd1, tup1, led1, ?_, by omega⟩ (fun m => (nm m).elim) fun _ => pm))
      rw [hf] at full
      have := of_decide_eq_false full.symm
      rw [mk]
      omega
    | true =>
      rw [hf] at full
      have big := of_decide_eq_true full.symm
      have one : ∀ M, SetTable.sizeAbove (SetTable.grown (es.size + 1)) = M + 1 → MaskOk M → M + 1 ≤ 128 → L1.length * 5 < M * 3 → wpAny (model P w) A (do
          if (!false && true) = true then setRelay a (SetTable.grown (es.size + 1))
          return true) Q E { s with heap := s.heap.update a (Obj.putSet es1 t2) } := fun M g1 g2 g3 g4 => by
        refine wp_if_pos (by decide) (wpAny_bind (lay_new (D := D) (s := { s with heap := s.heap.update a (Obj.putSet es1 t2) }) ho1 ⟨hex.1, hex.2.1, hex.2.2⟩ rfl new (by rw [m3, z1]; have := c3.sz; rwa [List.length_map] at this) (by rw [m4]; exact c3.dm)
          (by rw [mk]; rcases R.tab.mok with e | e | e <;> omega) nd1 tup1 led1 (by omega) (by rw [g1]; omega) g2 (by omega) g4 fun h2 L2 es2 t2' sb2 R2 pm2 => ?_))
        exact wpAny_pure (hQ true h2 L2 es2 t2' (sb.trans sb2) R2 (fun m => (nm m).elim) fun _ => pm2.trans pm)
      rcases R.tab.mok with e | e | e
      · exact one 31 (by rw [zl, show L.length = 4 by omega]; exact size_20) (.inr (.inl rfl)) (by omega) (by omega)
      · exact one 127 (by rw [zl, show L.length = 18 by omega]; exact size_76) (.inr (.inr rfl)) (by omega) (by omega)
      · omega
  cases hp : t1.plain with
  | false =>
    refine wp_if_neg (by decide) ?_
    exact fin t1 rfl rfl rfl rfl rfl c3
  | true =>
    refine wp_if_pos rfl (wpAny_bind (D.hb hx fun b => ?_))
    cases b with
    | true => exact fin t1 rfl rfl rfl rfl rfl c3
    | false => exact fin { t1 with plain := false } rfl rfl rfl rfl rfl ⟨c3.ris, c3.dm, c3.sz, c3.mok, c3.bd, c3.reach⟩
end
end VM

set_option Elab.async false
set_option linter.all false
set_option maxRecDepth 100000
/-! VM23: set(xs), xs a list or a tuple: what the set holds. -/
namespace VM
open PySem PySem.Spec L2
open PyProof.Rows hiding St

def freshSet (w : World) : Obj := { cls := .type "set", dict := none, data := .set #[] 0 (.fresh 0 0 (!w.params.followText "set-order")) }
/-- things that a set may be made of -/
structure SI (P : Program) (w : World) (K : Type) [DecidableEq K] where
  is : Heap → K → Value → Prop
  At : Heap → Addr → List (Value × K) → Prop
  isK : ∀ {h h' : Heap} {k : K} {v : Value}, is h k v → (∀ c o, h.get? c = some o → h'.get? c = some o) → is h' k v
  atK : ∀ {h h' : Heap} {a : Addr} {L : List (Value × K)}, At h a L → (∀ o, h.get? a = some o → h'.get? a = some o) → (∀ p ∈ L, is h' p.2 p.1) → At h' a L
  fresh : ∀ {h : Heap} {a : Addr}, h.get? a = some (freshSet w) → At h a []
  add : ∀ {A : Around} {E : Value → Shared → Prop} {s : Shared} {a : Addr} {L : List (Value × K)} {k : K} {v : Value} {Q : Bool → Shared → Prop}, A.units + 12 < cLine → is s.heap k v → At s.heap a L → L.length + 1 < 64 →
    (∀ b h' tk L', s.toks ≤ tk → Heap.SameBut a s.heap h' → At h' a L' → (k ∈ L.map (·.2) → L' = L) → (k ∉ L.map (·.2) → L'.Perm ((v, k) :: L)) → Q b { s with heap := h', toks := tk }) → wpAny (model P w) A (setAdd a v) Q E s
  ob : ∀ {h : Heap} {a : Addr} {L : List (Value × K)}, At h a L → ∃ (o : Obj) (es : Array (Int × Value)) (ep : Nat) (t : SetTable), h.get? a = some o ∧ o.ExactSet ∧ o.data = .set es ep t ∧ t.fits es.size = true ∧ Ris t.place.toList ∧
    (w.params.followText "set-order" = true ∨ t.led = true) ∧ es.size = L.length ∧ (es.toList.map (·.2)).Perm (L.map (·.1)) ∧ (L.map (·.2)).Nodup
/-- what came of the first i -/
structure Took {α K : Type} (ks : List (α × K)) (i : Nat) (L : List (α × K)) : Prop where
  sub : ∀ p ∈ L, p ∈ ks.take i
  all : ∀ p ∈ ks.take i, p.2 ∈ L.map (·.2)
  len : L.length ≤ i
theorem Took.next {α K : Type} {ks L L' : List (α × K)} {i : Nat} {x : α × K} (g : Took ks i L) (h : ks[i]? = some x) (c1 : x.2 ∈ L.map (·.2) → L' = L) (c2 : x.2 ∉ L.map (·.2) → L'.Perm (x :: L)) : Took ks (i + 1) L' := by
  have e : ks.take (i + 1) = ks.take i ++ [x] := take_next h
  by_cases m : x.2 ∈ L.map (·.2)
  · rw [c1 m]
    refine ⟨fun p hp => by rw [e]; exact List.mem_append_left _ (g.sub p hp), fun p hp => ?_, by have := g.len; omega⟩
    rw [e] at hp
    rcases List.mem_append.mp hp with q | q
    · exact g.all p q
    · rw [List.mem_singleton.mp q]; exact m
  · have pm := c2 m
    refine ⟨fun p hp => ?_, fun p hp => (pm.map (·.2)).mem_iff.mpr ?_, by have := g.len; have := pm.length_eq; rw [List.length_cons] at this; omega⟩
    · rw [e]
      rcases List.mem_cons.mp (pm.mem_iff.mp hp) with q | q
      · exact List.mem_append_right _ (List.mem_singleton.mpr q)
      · exact List.mem_append_left _ (g.sub p q)
    · rw [e] at hp
      rcases List.mem_append.mp hp with q | q
      · exact List.mem_cons_of_mem _ (g.all p q)
      · rw [List.mem_singleton.mp q]; exact List.mem_cons_self
section
variable {P : Program} {w : World} {K : Type} [DecidableEq K] {D : SI P w K} {A : Around}
/-- the loop of set.update -/
theorem upd_loop {I S : Addr} {fp wr : List Addr} {G : Array GenState → Array GenState → Prop} {n : Nat} {Pv : Nat → Value → Prop} {St : Nat → Shared → Prop} {R : Result → Shared → Prop} (W : WalksS P w A.in1 I fp wr G n Pv St) (hS : S ∉ fp)
    {ks : List (Value × K)} (hn : n = ks.length) (few : ks.length < 64) (val : ∀ i v, Pv i v → ∃ k, ks[i]? = some (v, k)) {h0 : Heap} (hk : ∀ p ∈ ks, D.is h0 p.2 p.1) (hS0 : h0.get? S = none) (hw0 : ∀ b ∈ wr, h0.get? b = none) (hr : A.in1.units + 12 < cLine) :
    ∀ (m i : Nat) (s : Shared) (L : List (Value × K)), i + m = n → St i s → (∀ b o, h0.get? b = some o → s.heap.get? b = some o) → D.At s.heap S L → Took ks i L →
      (∀ s' L', Moved (S :: wr) G s s' → D.At s'.heap S L' → Took ks n L' → (∀ b o, h0.get? b = some o → s'.heap.get? b = some o) → R (.ok (.ret .none)) s') →
      codeAny (model P w) A (.builtin "set.update.loop" ⟨[.ref S, .ref I], []⟩) R s := by
  have sw : S ∉ wr := fun h => hS (W.sub S h)
  have up : ∀ b ∈ wr, b ∈ S :: wr := fun b => List.mem_cons_of_mem S
  have keep : ∀ {z z' : Shared}, Moved wr G z z' → (∀ b o, h0.get? b = some o → z.heap.get? b = some o) → ∀ b o, h0.get? b = some o → z'.heap.get? b = some o := fun mv kp b o e => by
    refine mv.heap b o (fun hb => ?_) (kp b o e)
    rw [hw0 b hb] at e
    cases e
  have els : ∀ {z : Shared} {i : Nat} {L : List (Value × K)}, Took ks i L → (∀ b o, h0.get? b = some o → z.heap.get? b = some o) → ∀ p ∈ L, D.is z.heap p.2 p.1 := fun g kp p hp => D.isK (hk p (List.mem_of_mem_take (g.sub p hp))) kp
  intro m
  induction m with
  | zero =>
    intro i s L e st kp at_ g fin
    obtain rfl : i = n := by omega
    refine codeAny_builtin F.entry_set_update_loop ?_
    rw [Around.under_plainId F.plain_set_update_loop _]
    refine wpAny_bind (W.done s _ _ st fun z mv => ?_)
    exact wpAny_pure (fin z L (mv.mono up) (D.atK at_ (fun o => mv.heap S o sw) (els g (keep mv kp))) g (keep mv kp))
  | succ m ih =>
    intro i s L e st kp at_ g fin
    refine codeAny_builtin F.entry_set_update_loop ?_
    rw [Around.under_plainId F.plain_set_update_loop _]
    refine wpAny_bind (W.item i s _ _ (by omega) st fun v z pv st' mv => ?_)
    obtain ⟨k, hi⟩ := val i v pv
    have kp' := keep mv kp
    have kin := D.isK (hk (v, k) (List.mem_of_getElem? hi)) kp'
    refine wpAny_bind (wpAny_holding (D.add hr kin (D.atK at_ (fun o => mv.heap S o sw) (els g kp')) (by have := g.len; omega) fun b h' tk L' le sb at' c1 c2 => ?_))
    have other : ∀ c, c ≠ S → h'.get? c = z.heap.get? c := sb.2
    refine wpAny_pure ⟨plainId_quiet F.plain_set_update_loop _, ih (i + 1) _ L' (by omega) (W.frame _ z _ _ st' le fun b hb o eo => ?_) (fun b o eo => ?_) at' (g.next hi c1 c2) fun y L2 mv2 at2 g2 kp2 => ?_⟩
    · rw [other b fun q => hS (q ▸ hb)]; exact eo
    · rw [other b fun q => by rw [q, hS0] at eo; cases eo]; exact kp' b o eo
    · refine fin y L2 (Moved.trans W.gtrans ((mv.mono up).then_heap le fun b o hb eo => ?_) mv2) at2 g2 kp2
      rw [other b fun q => hb (q ▸ List.mem_cons_self)]; exact eo
variable {E : Value → Shared → Prop} {s : Shared}
theorem is_none {h : Heap} {b : Addr} (le : h.objs.size ≤ b) : h.get? b = none := by
  cases q : h.get? b with
  | none => rfl
  | some o => exact absurd (Heap.lt_size q) (Nat.not_lt.mpr le)
/-- either kind of row -/
inductive RowAt (h : Heap) (l : Addr) (its : Array Value) : Prop where
  | lst : h.IsList l its → RowAt h l its
  | tup : h.IsTuple l its → RowAt h l its
theorem RowAt.lt {h : Heap} {l : Addr} {its : Array Value} (r : RowAt h l its) : l < h.objs.size := by
  cases r with
  | lst q => obtain ⟨o, ho, _⟩ := q; exact Heap.lt_size ho
  | tup q => obtain ⟨o, ho, _⟩ := q; exact Heap.lt_size ho
/-- what is true behind set(xs) -/
def Made (D : SI P w K) (s : Shared) (ks : List (Value × K)) (z : Shared) : Prop :=
  ∃ h' tk L, z = { s with heap := h', toks := tk } ∧ D.At h' s.heap.objs.size L ∧ Took ks ks.length L ∧ ∀ b o, s.heap.get? b = some o → h'.get? b = some o
theorem pushed {h : Heap} {o : Obj} {b : Addr} {u : Obj} (e : h.get? b = some u) : (h.push o).get? b = some u := Heap.get?_push_of_some o e
/-- the making's loop, over whichever iterator -/
theorem init_loop {I : Addr} {o1 : Obj} {fp : List Addr} {G : Array GenState → Array GenState → Prop} {n : Nat} {Pv : Nat → Value → Prop} {St : Nat → Shared → Prop} {ks : List (Value × K)} {R : Result → Shared → Prop}
    (W : WalksS P w A.in1 I fp [I] G n Pv St) (hI : I = s.heap.objs.size + 1) (hS : s.heap.objs.size ∉ fp) (hn : n = ks.length) (few : ks.length < 64) (val : ∀ i v, Pv i v → ∃ k, ks[i]? = some (v, k)) (hk : ∀ p ∈ ks, D.is s.heap p.2 p.1)
    (hr : A.in1.units + 12 < cLine) (st : St 0 { s with heap := (s.heap.push (freshSet w)).push o1 }) (hG : ∀ z, Moved [s.heap.objs.size, I] G { s with heap := (s.heap.push (freshSet w)).push o1 } z → z = { s with heap := z.heap, toks := z.toks })
    (fin : ∀ z, Made D s ks z → R (.ok (.ret .none)) z) :
    codeAny (model P w) A (.builtin "set.update.loop" ⟨[.ref s.heap.objs.size, .ref I], []⟩) R { s with heap := (s.heap.push (freshSet w)).push o1 } := by
  refine upd_loop W hS hn few val (h0 := s.heap) hk (is_none (Nat.le_refl _)) (fun b hb => is_none (by rw [List.mem_singleton.mp hb, hI]; exact Nat.le_succ _)) hr n 0 _ [] (by omega) st (fun b o e => pushed (pushed e)) (D.fresh (pushed (Heap.get?_push_size _ rfl)))
    ⟨fun p hp => (by cases hp), fun p hp => (by simp at hp), Nat.le_refl _⟩ fun z L mv at_ g kp => fin z ⟨z.heap, z.toks, L, hG z mv, at_, hn ▸ g, kp⟩
theorem gens_same {wr : List Addr} {s z : Shared} {h : Heap} (mv : Moved wr (fun a b => b = a) { s with heap := h } z) : z = { s with heap := z.heap, toks := z.toks } := by
  obtain ⟨h', g', d', tk', os'⟩ := z
  have e1 : g' = s.gens := mv.gens
  have e2 : d' = s.drawn := mv.drawn
  have e3 : os' = s.os := mv.os
  subst e1; subst e2; subst e3
  rfl
set_option maxHeartbeats 3200000 in
/-- set(xs), xs a row -/
theorem call_set_row {l : Addr} {its : Array Value} {ks : List (Value × K)} (hh : A.handled = none) (hl : RowAt s.heap l its) (eit : its.toList = ks.map (·.1)) (hk : ∀ p ∈ ks, D.is s.heap p.2 p.1) (few : ks.length < 64) (hu : A.units + 20 < cLine)
    {Q : Value → Shared → Prop} (fin : ∀ z, Made D s ks z → Q (.ref s.heap.objs.size) z) : wpAny (model P w) A (call (.type "set") [.ref l]) Q E s := by
  have m1 := F.called_set.made
  have m2 := F.called_set.sub
  have m3 := F.called_set.notType
  have m4 := F.called_set.canCreate
  have m5 := F.typeCall_set_1 (.ref l)
  obtain ⟨m6, m7, m8⟩ := F.called_set.mro
  refine wpAny_call (codeAny_of_tree (wpAny_pure ⟨Code.quiet_builtin _ (by decide +kernel), codeAny_builtin F.entry_type_call ?_⟩))
  rw [Around.under_plain (weight_type_call_type "set" [.ref l] []) rfl]
  repeat (any_goals (first | assumption | wp_step))
  refine codeAny_mono (code_set_led1 (.ref l) (E := E) (Q₁ := fun v z => v = .ref s.heap.objs.size ∧ z = { s with heap := s.heap.push (freshSet w) }) ⟨rfl, rfl⟩) fun r z hz => ?_
  match r, hz with
  | .error e, hz => exact hz
  | .ok (.ret v), ⟨e1, e2⟩ =>
    subst e1
    subst e2
    have at0 : (s.heap.push (freshSet w)).get? s.heap.objs.size = some (freshSet w) := Heap.get?_push_size _ rfl
    have isT : Shared.TypeIs { s with heap := s.heap.push (freshSet w) } (.ref s.heap.objs.size) "set" := ⟨_, at0, rfl⟩
    have m9 := F.called_set.init.lookup
    have m10 := F.called_set.init.bind (.ref s.heap.objs.size)
    repeat (any_goals (first | assumption | wp_step))
    refine codeAny_mono (codeAny_call_builtin (R := wants (fun v z => v = .none ∧ Made D s ks z) E) F.called_set.init.plain F.entry_set_init (check_set_init_1 isT ?_)) fun r z hz => ?_
    · have h1 : A.in1.in1.in1.handled = none := hh
      have lt := hl.lt
      have sz1 : (s.heap.push (freshSet w)).objs.size = s.heap.objs.size + 1 := Heap.size_push ..
      have n1 : l ≠ s.heap.objs.size := Nat.ne_of_lt lt
      have n2 : l ≠ (s.heap.push (freshSet w)).objs.size := by rw [sz1]; exact Nat.ne_of_lt (Nat.lt_succ_of_lt lt)
      have nf : s.heap.objs.size ∉ [(s.heap.push (freshSet w)).objs.size, l] := by
        rw [sz1]
        intro m
        rcases List.mem_cons.mp m with e | e
        · exact absurd e (Nat.ne_of_lt (Nat.lt_succ_self _))
        · exact n1 (List.mem_singleton.mp e).symm
      have zk : its.size = ks.length := by rw [← Array.length_toList, eit, List.length_map]
      have vals : ∀ (i : Nat) (v : Value), its[i]? = some v → ∃ k, ks[i]? = some (v, k) := fun i v e => by
        have q : its.toList[i]? = some v := by rw [Array.getElem?_toList]; exact e
        rw [eit, List.getElem?_map] at q
        obtain ⟨p, e1, e2⟩ := Option.map_eq_some_iff.mp q
        exact ⟨p.2, by rw [e1, ← e2]⟩
      unfold Builtin.«set.__init__» noKeywords Builtin.Frozenset.updateFrom
      cases hl with
      | lst q =>
        have q1 := q.push (freshSet w)
        obtain ⟨⟨c0, d0, dt0, s0⟩, go, gc, gn, gd⟩ := q1
        simp only at gc gd
        subst gc
        subst gd
        have q1 := q.push (freshSet w)
        have u1 := F.sub_list_set
        have u2 := F.sub_list_frozenset
        have u3 : (Value.type "list" == Value.type "dict") = false := by decide
        generalize hPI : pyIter = PI
        wp_walk
        subst hPI
        refine wpAny_pyIter_list q1 (wpAny_bind (wpAny_runValue ?_))
        refine init_loop (s := s) ((Walks.list h1 _ l n2 its).toS) sz1 nf zk few vals hk (by show A.units + 3 + 12 < cLine; omega) ⟨⟨_, Heap.get?_push_size _ rfl, rfl, rfl⟩, q1.push _⟩ (fun z mv => gens_same mv) fun z hz => ?_
        exact wpAny_pure (wpAny_pure ⟨rfl, hz⟩)
      | tup q =>
        have q1 := q.push (freshSet w)
        obtain ⟨⟨c0, d0, dt0, s0⟩, go, gc, gn, gd⟩ := q1
        simp only at gc gd
        subst gc
        subst gd
        have q1 := q.push (freshSet w)
        have u1 := F.sub_tuple_set
        have u2 := F.sub_tuple_frozenset
        have u3 : (Value.type "tuple" == Value.type "dict") = false := by decide
        generalize hPI : pyIter = PI
        wp_walk
        subst hPI
        refine wpAny_pyIter_tuple q1 (wpAny_bind (wpAny_runValue ?_))
        refine init_loop (s := s) ((Walks.tuple h1 _ l n2 its).toS) sz1 nf zk few vals hk (by show A.units + 3 + 12 < cLine; omega) ⟨⟨_, Heap.get?_push_size _ rfl, rfl, rfl⟩, q1.push _⟩ (fun z mv => gens_same mv) fun z hz => ?_
        exact wpAny_pure (wpAny_pure ⟨rfl, hz⟩)
    · match r, hz with
      | .error e, hz => exact hz
      | .ok (.ret v), ⟨e1, e2⟩ =>
        subst e1
        repeat (any_goals (first | assumption | wp_step))
        exact fin z e2
end
end VM

set_option Elab.async false
set_option linter.all false
set_option maxRecDepth 100000
/-! VM24: the things sets are made of: tuples, texts. -/
namespace VM
open PySem PySem.Spec L2
open PyProof.Rows hiding St
section
variable {P : Program} {w : World}
/-! ### tuples of keys -/
/-- v is no class statement's thing; hashing it runs nothing -/
def Mild (P : Program) (w : World) (n : Nat) (s : Shared) (v : Value) : Prop := ∀ (A : Around) (E : Value → Shared → Prop) (Q : Bool → Shared → Prop),
  (Q false s → wpAny (model P w) A (ofAClassStatement n v) Q E s) ∧ ((∀ b, Q b s) → wpAny (model P w) A (hashByValue n v) Q E s)
theorem mild_tup {n : Nat} {s : Shared} {a : Addr} {o : Obj} {vs : Array Value} {m : Nat} (hg : s.heap.get? a = some o) (hc : o.cls = .type "tuple") (hd : o.data = .seq vs m) (al : ∀ v ∈ vs.toList, Mild P w n s v) : Mild P w (n + 1) s (.ref a) := by
  have isT : s.TypeIs (.ref a) "tuple" := ⟨o, hg, hc⟩
  intro A E Q
  refine ⟨fun h => ?_, fun h => ?_⟩
  · unfold ofAClassStatement
    refine wpAny_bind (wpAny_typeOf isT ?_)
    dsimp only
    rw [if_pos (by decide)]
    refine wpAny_bind (wpAny_pure (wp_if_neg (by decide) (wpAny_bind (wpAny_seqItems hg hd (wpAny_bind ?_)))))
    show wpAny _ _ (forIn vs _ _) _ _ s
    rw [← Array.forIn_toList]
    refine wpAny_forIn_list _ (fun l r z => (z = s ∧ r.1 = none) ∧ ∀ v ∈ l, Mild P w n s v) _ ?_ ?_ _ _ ⟨⟨rfl, rfl⟩, al⟩
    · intro v l r z ⟨⟨ez, _⟩, all⟩
      subst ez
      exact wpAny_bind ((all v List.mem_cons_self A E _).1 (wp_if_neg (by decide) (wpAny_pure ⟨⟨rfl, rfl⟩, fun u m => all u (List.mem_cons_of_mem _ m)⟩)))
    · intro r z ⟨⟨ez, er⟩, _⟩
      subst ez
      obtain ⟨r1, r2⟩ := r
      dsimp only at er
      subst er
      exact wpAny_pure h
  · unfold hashByValue
    refine wpAny_bind (wpAny_specialOf isT F.slot_tuple_hash.lookup ?_)
    refine wpAny_bind (wpAny_seqItems hg hd (wpAny_bind ?_))
    show wpAny _ _ (forIn vs _ _) _ _ s
    rw [← Array.forIn_toList]
    refine wpAny_forIn_list _ (fun l r z => (z = s ∧ r.1 = none) ∧ ∀ v ∈ l, Mild P w n s v) _ ?_ ?_ _ _ ⟨⟨rfl, rfl⟩, al⟩
    · intro v l r z ⟨⟨ez, _⟩, all⟩
      subst ez
      refine wpAny_bind ((all v List.mem_cons_self A E _).2 fun b => ?_)
      cases b with
      | false => exact wp_if_pos (by decide) (wpAny_pure (wpAny_pure (h false)))
      | true => exact wp_if_neg (by decide) (wpAny_pure ⟨⟨rfl, rfl⟩, fun u m => all u (List.mem_cons_of_mem _ m)⟩)
    · intro r z ⟨⟨ez, er⟩, _⟩
      subst ez
      obtain ⟨r1, r2⟩ := r
      dsimp only at er
      subst er
      exact wpAny_pure (h true)
mutual
theorem mild_key : ∀ (k : NestedKey) (v : Value) (n : Nat) (s : Shared), NestedIs s.heap k v → k.depth ≤ n → Mild P w n s v
  | .none, _, n, s, x, _ => by
    cases x
    intro A E Q
    cases n <;> exact ⟨fun h => wpAny_pure h, fun h => wpAny_pure (h _)⟩
  | .num i, _, n, s, x, _ => by
    cases x <;> (intro A E Q; cases n <;> exact ⟨fun h => wpAny_pure h, fun h => wpAny_pure (h _)⟩)
  | .text y, _, n, s, x, _ => by
    cases x
    intro A E Q
    cases n <;> exact ⟨fun h => wpAny_pure h, fun h => wpAny_pure (h _)⟩
  | .tup ks, _, 0, s, x, le => by
    simp only [NestedKey.depth] at le
    omega
  | .tup ks, _, n + 1, s, x, le => by
    simp only [NestedKey.depth] at le
    cases x with
    | tup hg hc hd hk => exact mild_tup hg hc hd (mild_keys ks _ n s hk (by omega))
theorem mild_keys : ∀ (ks : List NestedKey) (vs : List Value) (n : Nat) (s : Shared), NestedAll s.heap ks vs → NestedKey.depthAll ks ≤ n → ∀ v ∈ vs, Mild P w n s v
  | [], _, n, s, x, _, v, hv => by cases x; cases hv
  | k :: ks, _, n, s, x, le, v, hv => by
    simp only [NestedKey.depthAll] at le
    cases x with
    | cons x y =>
      cases hv with
      | head => exact mild_key k _ n s x (by omega)
      | tail _ hv => exact mild_keys ks _ n s y (by omega) v hv
end
def ekN (P : Program) (w : World) : EK P w NestedKey where
  kd := nestedKind P w
  st := nestedKind_stays
  hb := fun {A E s k a Q} hk h => (mild_key k _ 8 s hk.1 hk.2 A E Q).2 h
  oc := fun {A E s k a Q} hk h => (mild_key k _ 8 s hk.1 hk.2 A E Q).1 h
def adr : Value → Addr
  | .ref a => a
  | _ => 0
/-- sets of tuples -/
def siN (P : Program) (w : World) : SI P w NestedKey where
  is := fun h k v => ∃ a, v = .ref a ∧ (nestedKind P w).is h k a
  At := fun h a L => (∀ p ∈ L, ∃ b, p.1 = .ref b) ∧ ∃ es t, (ekN P w).Tab h a (L.map fun p => (adr p.1, p.2)) es t
  isK := fun ⟨a, e, x⟩ k => ⟨a, e, nestedKind_stays.stays (fun b o _ _ q _ => k b o q) x⟩
  atK := fun {h h' a L} ⟨r, es, t, T⟩ k x => ⟨r, es, t, by
    obtain ⟨o, ep, ho, q⟩ := T.obj
    exact ⟨o, ep, k o ho, q⟩, T.rows, T.tab, T.nd, fun p hp => by
      obtain ⟨q, hq, rfl⟩ := List.mem_map.mp hp
      obtain ⟨b, e, z⟩ := x q hq
      dsimp only
      rw [e]
      exact z, T.led, T.room, T.few⟩
  fresh := fun {h a} e => ⟨fun p hp => (by cases hp), #[], .fresh 0 0 (!w.params.followText "set-order"), ⟨_, 0, e, ⟨rfl, rfl, rfl⟩, rfl⟩, rfl,
    ⟨List.Pairwise.nil, rfl, rfl, .inl rfl, fun x hx => (by cases hx), fun i h j hi => (by simp at hi)⟩, List.nodup_nil, fun p hp => (by cases hp), by
      show _ ∨ (!w.params.followText "set-order") = true
      cases w.params.followText "set-order"
      · exact .inr rfl
      · exact .inl rfl, by show 0 * 5 < 7 * 3; decide, by show 0 < 64; decide⟩
  add := fun {A E s a L k v Q} hu ⟨b, ev, x⟩ ⟨r, es, t, T⟩ few fin => by
    subst ev
    unfold setAdd
    refine wpAny_holding (wpAny_bind ((nestedKind P w).pyHash (show A.units + 8 < cLine by omega) x ?_))
    have T' : (ekN P w).Tab ({ s with toks := s.toks + (nestedKind P w).draws k } : Shared).heap a (L.map fun p => (adr p.1, p.2)) es t := T
    have keys : (L.map fun p => (adr p.1, p.2)).map (·.2) = L.map (·.2) := by rw [List.map_map]; rfl
    refine add_one T' (x := b) (k := k) x (show A.units + 8 < cLine by omega) (by rw [List.length_map]; exact few) fun c h' L' es' t' sb R c1 c2 => ?_
    rw [keys] at c1 c2
    have back : ∀ l : List (Addr × NestedKey), l = (l.map fun p => ((Value.ref p.1, p.2) : Value × NestedKey)).map fun p => (adr p.1, p.2) := fun l => by
      rw [List.map_map]
      exact (List.map_id l).symm
    have to : ∀ l : List (Value × NestedKey), (∀ p ∈ l, ∃ b, p.1 = .ref b) → (l.map fun p => (adr p.1, p.2)).map (fun p => ((Value.ref p.1, p.2) : Value × NestedKey)) = l := fun l q => by
      rw [List.map_map]
      conv => rhs; rw [← List.map_id l]
      refine List.map_congr_left fun p hp => ?_
      obtain ⟨b, e⟩ := q p hp
      obtain ⟨p1, p2⟩ := p
      dsimp only at e
      subst e
      rfl
    refine fin c h' _ (L'.map fun p => (Value.ref p.1, p.2)) (Nat.le_add_right _ _) sb ⟨fun p hp => ?_, es', t', by rw [← back]; exact R⟩ (fun m => ?_) fun m => ?_
    · obtain ⟨q, _, rfl⟩ := List.mem_map.mp hp
      exact ⟨_, rfl⟩
    · rw [c1 m, to L r]
    · have q := (c2 m).map fun p : Addr × NestedKey => ((Value.ref p.1, p.2) : Value × NestedKey)
      rw [List.map_cons, to L r] at q
      exact q
  ob := fun {h a L} ⟨r, es, t, T⟩ => by
    obtain ⟨o, ep, ho, hex, hd⟩ := T.obj
    have z1 : es.size = (L.map fun p => (adr p.1, p.2)).length := by
      have q := rows_len T.rows
      rwa [Array.length_toList] at q
    refine ⟨o, es, ep, t, ho, hex, hd, ?_, T.tab.ris, T.led, ?_, ?_, ?_⟩
    · exact fits_of (by rw [z1, T.tab.sz, List.length_map]) T.tab.dm (by rw [z1]; have := T.room; omega)
    · rw [z1, List.length_map]
    · rw [T.rows, List.map_map, List.map_map]
      refine List.Perm.of_eq (List.map_congr_left fun p hp => ?_)
      obtain ⟨b, e⟩ := r p hp
      show Value.ref (adr p.1) = p.1
      rw [e]
      rfl
    · have q := T.nd
      rw [List.map_map] at q
      exact q
end
end VM

set_option Elab.async false
set_option linter.all false
set_option maxRecDepth 100000
/-! VM25: sets of texts and ints, found by scanning. -/
namespace VM
open PySem PySem.Spec L2
open PyProof.Rows hiding St
section
variable {P : Program} {w : World} {A : Around} {E : Value → Shared → Prop} {s : Shared}
def keyRow (w : World) (p : Value × Key) : Int × Value := (keyH w p.2, p.1)
/-- the set at a: its rows in some order -/
def ScanAt (P : Program) (w : World) (h : Heap) (a : Addr) (L : List (Value × Key)) : Prop :=
  ∃ (o : Obj) (es : Array (Int × Value)) (ep : Nat) (t : SetTable), h.get? a = some o ∧ o.ExactSet ∧ o.data = .set es ep t ∧ es.toList.Perm (L.map (keyRow w)) ∧ (∀ p ∈ L, keyIs p.2 p.1 = true) ∧ (L.map (·.2)).Nodup ∧ L.length < 64 ∧
    t.fits es.size = true ∧ Ris t.place.toList ∧ (w.params.followText "set-order" = true ∨ t.led = true)
theorem key_sc {k : Key} {v : Value} (h : keyIs k v = true) : v.scannable = true := by
  rcases keyIs_shape h with ⟨i, t, rfl, rfl⟩ | ⟨x, t, rfl, rfl⟩ <;> rfl
theorem rows_el {l : List (Int × Value)} {L : List (Value × Key)} (pm : l.Perm (L.map (keyRow w))) (al : ∀ p ∈ L, keyIs p.2 p.1 = true) : ElemsOf (mixKind P w) l := fun e he => by
  obtain ⟨p, hp, rfl⟩ := List.mem_map.mp (pm.mem_iff.mp he)
  exact ⟨⟨p.2, al p hp, rfl⟩, key_sc (al p hp)⟩
theorem rows_sz {es : Array (Int × Value)} {L : List (Value × Key)} (pm : es.toList.Perm (L.map (keyRow w))) : es.size = L.length := by
  have q := pm.length_eq
  rwa [Array.length_toList, List.length_map] at q
/-- storing, and perhaps laying anew -/
theorem keep_rows {a : Addr} {o : Obj} {es : Array (Int × Value)} {ep : Nat} {t : SetTable} {g : Bool → Sem Unit} (hg : ∀ (b : Bool) (z : Shared) (Q' : Unit → Shared → Prop), Q' () z → wpAny (model P w) A (g b) Q' E z) (ho : s.heap.get? a = some o) (hex : o.ExactSet)
    (hd : o.data = .set es ep t) {es1 : Array (Int × Value)} {t1 : SetTable} {L : List (Value × Key)} (pm : es1.toList.Perm (L.map (keyRow w))) (al : ∀ p ∈ L, keyIs p.2 p.1 = true) (nd : (L.map (·.2)).Nodup) (few : L.length < 64) (ft : t1.fits es1.size = true)
    (ris : Ris t1.place.toList) (ld : w.params.followText "set-order" = true ∨ t1.led = true) {dm : Bool} {R : Option Bool → Shared → Prop} (hR : ∀ h', Heap.SameBut a s.heap h' → ScanAt P w h' a L → R (some true) { s with heap := h' }) :
    wpAny (model P w) A (do
      storeSet a es1 t1
      if (!dm && t1.tooFull) = true then do
        g (relayAll t1 es1 (SetTable.grown es1.size)).2.2
        storeSet a (relayAll t1 es1 (SetTable.grown es1.size)).1 (relayAll t1 es1 (SetTable.grown es1.size)).2.1
        pure (some true)
      else pure (some true)) R E s := by
  have z1 := rows_sz pm
  have sb := Heap.SameBut.update s.heap a (Obj.putSet es1 t1)
  have ho1 := store_at (es' := es1) (t' := t1) ho hd
  refine wpAny_bind (wpAny_storeSet_of ho hd ?_ (by rw [z1, sizeLine_eq]; omega))
  cases hc : (!dm && t1.tooFull) with
  | false => exact wp_if_neg (by decide) (wpAny_pure (hR _ sb ⟨_, es1, _, t1, ho1, ⟨hex.1, hex.2.1, hex.2.2⟩, rfl, pm, al, nd, few, ft, ris, ld⟩))
  | true =>
    have p2 := (relayAll_perm t1 es1 (SetTable.grown es1.size)).trans pm
    refine wp_if_pos rfl (wpAny_bind (hg _ _ _ (wpAny_bind (wpAny_storeSet_of ho1 rfl (wpAny_pure (hR _ (sb.trans (Heap.SameBut.update _ a _)) ⟨_, _, _, _, store_at ho1 rfl, ⟨hex.1, hex.2.1, hex.2.2⟩, rfl, p2, al, nd, few,
      relayAll_fits _ _ _, relayAll_ris _ _ _, by rw [relayAll_led]; exact ld⟩)) (by rw [rows_sz p2, sizeLine_eq]; omega)))))
theorem scan_add {a : Addr} {L : List (Value × Key)} {k : Key} {v : Value} {Q : Bool → Shared → Prop} (hv : keyIs k v = true) (S : ScanAt P w s.heap a L) (few : L.length + 1 < 64)
    (fin : ∀ b h' tk L', s.toks ≤ tk → Heap.SameBut a s.heap h' → ScanAt P w h' a L' → (k ∈ L.map (·.2) → L' = L) → (k ∉ L.map (·.2) → L'.Perm ((v, k) :: L)) → Q b { s with heap := h', toks := tk }) : wpAny (model P w) A (setAdd a v) Q E s := by
  have S0 := S
  obtain ⟨o, es, ep, t, ho, hex, hd, pm, al, nd, lt, ft, ris, ld⟩ := S
  have el : ElemsOf (mixKind P w) es.toList := rows_el pm al
  have z := rows_sz pm
  unfold setAdd
  have one : ∀ tk, s.toks ≤ tk → wpAny (model P w) A (setAddHashed a v ((mixKind P w).hash k)) Q E { s with toks := tk } := fun tk le => by
    unfold setAddHashed
    rw [show (100000 : Nat) = 99999 + 1 from rfl, setAddHashedIn_succ]
    refine wpAny_holding (wpAny_bind (wpAny_setState_of ho hd ft ?_))
    dsimp only
    rw [byScan_of (key_sc hv) (by unfold scanBound; omega) el]
    refine wp_if_pos rfl ?_
    unfold setAddByScan
    refine wpAny_bind (wpAny_bind (wpAny_rule (wpAny_bind (wpAny_setScan_of (knd := mixKind P w) (k := k) (s := { s with toks := tk }) hv ho hd ft el ?_))))
    cases hf : es.toList.findIdx? (fun e => (mixKind P w).is k e.2) with
    | some j =>
      obtain ⟨lj, ej, _⟩ := List.findIdx?_eq_some_iff_getElem.mp hf
      obtain ⟨p, hp, e⟩ := List.mem_map.mp (pm.mem_iff.mp (List.getElem_mem lj))
      have same : p.2 = k := by
        rw [← e] at ej
        exact (mixKind P w).inj p.1 p.2 k (al p hp) ej
      exact wpAny_pure (wpAny_pure (fin false s.heap tk L le (Heap.SameBut.refl a s.heap) S0 (fun _ => rfl) fun n => (n (List.mem_map.mpr ⟨p, hp, same⟩)).elim))
    | none =>
      have nm : k ∉ L.map (·.2) := fun m => by
        obtain ⟨p, hp, rfl⟩ := List.mem_map.mp m
        have q := List.findIdx?_eq_none_iff.mp hf (keyRow w p) (pm.mem_iff.mpr (List.mem_map.mpr ⟨p, hp, rfl⟩))
        have q2 : (mixKind P w).is p.2 (keyRow w p).2 = true := al p hp
        rw [q2] at q
        cases q
      dsimp only
      have p1 := layNew_perm t es ((mixKind P w).hash k) v
      have f1 := layNew_fits t es ((mixKind P w).hash k) v
      have r1 := layNew_ris t es ((mixKind P w).hash k) v ris
      have l1 := layNew_led t es ((mixKind P w).hash k) v
      generalize layNew t es ((mixKind P w).hash k) v = Y at p1 f1 r1 l1 ⊢
      obtain ⟨es1, t1, dm, gv⟩ := Y
      dsimp only at p1 f1 r1 l1 ⊢
      rw [Array.toList_push] at p1
      have p2 : es1.toList.Perm (((v, k) :: L).map (keyRow w)) := p1.trans ((List.perm_append_singleton _ _).trans (pm.cons _))
      have al2 : ∀ p ∈ (v, k) :: L, keyIs p.2 p.1 = true := fun p hp => by
        rcases List.mem_cons.mp hp with e | hp
        · rw [e]; exact hv
        · exact al p hp
      have nd2 : (((v, k) :: L).map (·.2)).Nodup := List.nodup_cons.mpr ⟨nm, nd⟩
      have ld2 : w.params.followText "set-order" = true ∨ t1.led = true := by rw [l1]; exact ld
      have gw : ∀ (b : Bool) (z : Shared) (Q' : Unit → Shared → Prop), Q' () z → wpAny (model P w) A (match b with | true => rule "set.scan.the-table-gave-way" | false => pure ()) Q' E z := fun b z Q' q => by
        cases b
        · exact wpAny_pure q
        · exact wpAny_rule q
      have last : ∀ t2 : SetTable, t2.fits es1.size = true → Ris t2.place.toList → (w.params.followText "set-order" = true ∨ t2.led = true) → _ := fun t2 a1 a2 a3 =>
        keep_rows (P := P) (w := w) (A := A) (E := E) (s := { s with toks := tk }) (dm := dm) gw ho hex hd p2 al2 nd2 few a1 a2 a3 (R := fun r z => wpAny (model P w) A (match r with | some added => pure added | none => setAddHashedIn a v ((mixKind P w).hash k) 99999) Q E z)
          fun h' sb S' => wpAny_pure (fin true h' tk _ le sb S' (fun m => (nm m).elim) fun _ => List.Perm.refl _)
      refine wpAny_bind (gw _ _ _ ?_)
      cases hp : t1.plain with
      | false =>
        refine wp_if_neg (by decide) ?_
        exact last t1 f1 r1 ld2
      | true =>
        refine wp_if_pos rfl (wpAny_bind ?_)
        rw [hashByValue_scannable 8 (key_sc hv)]
        refine wpAny_pure ?_
        cases plainKind v with
        | true => exact last t1 f1 r1 ld2
        | false => exact last { t1 with plain := false } (SetTable.fits_plain_off f1) r1 ld2
  refine wpAny_holding (wpAny_bind ?_)
  rcases keyIs_shape hv with ⟨i, u, rfl, rfl⟩ | ⟨x, u, rfl, rfl⟩
  · exact wpAny_pyHash_int (one _ (Nat.le_succ _))
  · exact wpAny_pyHash_str (one _ (Nat.le_succ _))
def siK (P : Program) (w : World) : SI P w Key where
  is := fun _ k v => keyIs k v = true
  At := ScanAt P w
  isK := fun x _ => x
  atK := fun ⟨o, es, ep, t, ho, q⟩ k _ => ⟨o, es, ep, t, k o ho, q⟩
  fresh := fun e => ⟨_, #[], 0, _, e, ⟨rfl, rfl, rfl⟩, rfl, List.Perm.refl _, fun p hp => (by cases hp), List.nodup_nil, by show 0 < 64; decide, by rfl, List.Pairwise.nil, by
    show _ ∨ (!w.params.followText "set-order") = true
    cases w.params.followText "set-order"
    · exact .inr rfl
    · exact .inl rfl⟩
  add := fun _ hv S few fin => scan_add hv S few fin
  ob := fun ⟨o, es, ep, t, ho, hex, hd, pm, al, nd, lt, ft, ris, ld⟩ => ⟨o, es, ep, t, ho, hex, hd, ft, ris, ld, rows_sz pm, by
    have q := pm.map (·.2)
    rw [List.map_map] at q
    exact q, nd⟩
end
end VM

set_option Elab.async false
set_option linter.all false
/-! VM1: values by value, outcomes, what operators do to them. -/
namespace VM
open PySem

/-- a value: tuples, frozen lists, frozen dicts and frozen instances by value; a mutable cell by its handle -/
inductive W where
  | non | bl (b : Bool) | int (i : Int) | str (x : Str)
  | tup (xs : List W) | lst (xs : List W)
  | dic (ks xs : List W)
  | obj (C : Str) (ks : List Str) (xs : List W)
  | exc (C : Str)
  | hnd (n : Nat)
  deriving Inhabited

/-- what is owned: a list, a dict, that may change -/
inductive MO where
  | lst (xs : List W) | dic (ks xs : List W)
  deriving Inhabited
def MO.fz : MO → W
  | .lst xs => .lst xs
  | .dic ks xs => .dic ks xs

/-- what a slot holds; pk: a list that is read where it stands -/
inductive Sl where
  | no | val (w : W) | own (m : MO) | pk (w : W)
  deriving Inhabited
abbrev Tau := List Sl
inductive Cell where
  | ins (C : Str) (ks : List Str) (xs : List Sl)
  | mo (m : MO)
  | fz (w : W)
  deriving Inhabited
structure Store where
  cells : List (Nat × Cell)
  next : Nat
  deriving Inhabited

/-- an outcome: a value and the state; an exception of an own class; stuck -/
inductive R (α : Type) where
  | ok (a : α) (τ : Tau) (S : Store)
  | ex (C : Str) (τ : Tau) (S : Store)
  | no
def R.bind {α β : Type} (r : R α) (f : α → Tau → Store → R β) : R β := match r with
  | .ok a τ S => f a τ S
  | .ex C τ S => .ex C τ S
  | .no => .no
/-- a statement's outcome -/
inductive O where
  | nx (τ : Tau) (S : Store) | rt (r : Sl) (τ : Tau) (S : Store) | bk (τ : Tau) (S : Store) | ct (τ : Tau) (S : Store)
  | ex (C : Str) (τ : Tau) (S : Store) | no
abbrev DE := Tau → Store → R Sl
abbrev DT := Tau → Store → R Bool
abbrev DA := Tau → Store → R (List Sl)
abbrev DS := Tau → Store → O

/-- what is read of an entry -/
def Sl.rd : Sl → Option W
  | .no => none
  | .val w => some w
  | .own m => some m.fz
  | .pk w => some w
/-- .. where it may be kept: what is fresh is frozen -/
def Sl.kp : Sl → Option W
  | .val w => some w
  | .own m => some m.fz
  | _ => none

/-- a cell's list or dict, by its number -/
def cellMo : List (Nat × Cell) → Nat → Option MO
  | [], _ => none
  | (k, .mo m) :: r, n => if k = n then some m else cellMo r n
  | (k, .ins ..) :: r, n => if k = n then none else cellMo r n
  | (k, .fz _) :: r, n => if k = n then none else cellMo r n
/-- what is read of a cell -/
def cellW : List (Nat × Cell) → Nat → Option W
  | [], _ => none
  | (k, .mo m) :: r, n => if k = n then some m.fz else cellW r n
  | (k, .ins ..) :: r, n => if k = n then none else cellW r n
  | (k, .fz w) :: r, n => if k = n then some w else cellW r n
/-- what is read of an entry, a cell by its handle -/
def Sl.rdS (S : Store) : Sl → Option W
  | .val (.hnd n) => cellW S.cells n
  | s => s.rd
def strLine : Nat := 4194304
def seqLine : Nat := 1000000

mutual
/-- the datum of a value -/
def W.toD : W → Option PyData
  | .non => some .none
  | .bl b => some (.bool b)
  | .int i => some (.int i)
  | .str x => some (.str x)
  | .tup xs => (W.toDs xs).map .tuple
  | .lst xs => (W.toDs xs).map .list
  | _ => none
def W.toDs : List W → Option (List PyData)
  | [] => some []
  | x :: r => match W.toD x with
    | some d => (match W.toDs r with
      | some ds => some (d :: ds)
      | none => none)
    | none => none
end
/-- == -/
def W.eqv (a b : W) : Option Bool := match a.toD, b.toD with
  | some d, some e => if d.depth ≤ 64 ∧ e.depth ≤ 64 then some (PyData.eqv d e) else none
  | _, _ => none

/-- what is bound at a place i of a sequence of n -/
def ixAt (n : Nat) (i : Int) : Option Nat := if 0 ≤ i ∧ i < n then some i.toNat else if i < 0 ∧ -i ≤ n then some (n + i).toNat else none

def sB (b : Bool) : Option Sl := some (.val (.bl b))
def sI (i : Int) : Option Sl := some (.val (.int i))
/-- binary operators -/
def opAdd : W → W → Option Sl
  | .int a, .int b => sI (a + b)
  | .str a, .str b => if a.length + b.length ≤ strLine then some (.val (.str (a ++ b))) else none
  | .lst a, .lst b => if a.length + b.length ≤ seqLine then some (.own (.lst (a ++ b))) else none
  | .tup a, .tup b => if a.length + b.length ≤ seqLine then some (.val (.tup (a ++ b))) else none
  | _, _ => none
def opSub : W → W → Option Sl
  | .int a, .int b => sI (a - b)
  | _, _ => none
/-- a text told n times -/
def strRep (x : Str) (n : Nat) : Str := ⟨(List.replicate n x.cps).foldl (· ++ ·) #[]⟩
def opMul : W → W → Option Sl
  | .str x, .int k => if -(2 ^ 62) < k ∧ k < 2 ^ 62 ∧ x.length * k.toNat ≤ strLine then some (.val (.str (strRep x k.toNat))) else none
  | .lst xs, .int k => if -(2 ^ 62) < k ∧ k < 2 ^ 62 ∧ xs.length * k.toNat ≤ seqLine then some (.own (.lst (List.replicate k.toNat xs).flatten)) else none
  | .int a, .int b => if (-(2 ^ 64) < a ∧ a < 2 ^ 64) ∨ (-(2 ^ 64) < b ∧ b < 2 ^ 64) then sI (a * b) else none
  | _, _ => none
def opFDiv : W → W → Option Sl
  | .int a, .int b => if 0 < b ∧ b < 1073741824 then sI (a / b) else none
  | _, _ => none
def opMod : W → W → Option Sl
  | .int a, .int b => if 0 < b then sI (a % b) else none
  | _, _ => none
def opPow : W → W → Option Sl
  | .int a, .int b => if 0 ≤ b ∧ b ≤ 1000000 ∧ a.natAbs < 2 ^ 64 then sI (a ^ b.toNat) else none
  | _, _ => none
def opBin : Operator → W → W → Option Sl
  | .Add => opAdd
  | .Sub => opSub
  | .Mult => opMul
  | .FloorDiv => opFDiv
  | .Mod => opMod
  | .Pow => opPow
  | _ => fun _ _ => none
/-- in: data in a list or tuple, a text in a text -/
def inSeq (mk : List PyData → PyData) (x : W) (ys : List W) : Option Bool := match x.toD, W.toDs ys with
  | some d, some ds => if d.depth ≤ 64 ∧ (mk ds).depth ≤ 64 then some (ds.any fun z => PyData.eqv z d) else none
  | _, _ => none
def W.isIn (x : W) : W → Option Bool
  | .lst ys => inSeq .list x ys
  | .tup ys => inSeq .tuple x ys
  | .str z => (match x with
    | .str y => some (!(Builtin.Str.occurrences z y 0 z.length 1).isEmpty)
    | _ => none)
  | _ => none
def W.isNon : W → Bool
  | .non => true
  | _ => false
def isNone : PyData → Bool
  | .none => true
  | _ => false
/-- two data that can be ordered -/
def datC (d e : PyData) : Bool := PySem.W.alike d e && !isNone d && decide (d.depth ≤ 60)
def opOrd (f : Int → Int → Bool) (g : PyData → PyData → Bool) : W → W → Option Bool
  | .int a, .int b => some (f a b)
  | x, y => match x.toD, y.toD with
    | some d, some e => if datC d e then some (g d e) else none
    | _, _ => none
def opIs (t : Bool) : W → W → Option Bool
  | a, .non => some (if a.isNon then t else !t)
  | _, _ => none
def opCmp : CmpOp → W → W → Option Bool
  | .Eq => fun a b => a.eqv b
  | .NotEq => fun a b => (a.eqv b).map (!·)
  | .Lt => opOrd (fun a b => decide (a < b)) fun d e => PySem.W.dataLt d e
  | .LtE => opOrd (fun a b => decide (a ≤ b)) fun d e => !PySem.W.dataLt e d
  | .Gt => opOrd (fun a b => decide (b < a)) fun d e => PySem.W.dataLt e d
  | .GtE => opOrd (fun a b => decide (b ≤ a)) fun d e => !PySem.W.dataLt d e
  | .In => fun a b => a.isIn b
  | .NotIn => fun a b => (a.isIn b).map (!·)
  | .Is => opIs true
  | .IsNot => opIs false
end VM

set_option Elab.async false
set_option linter.all false
/-! VM2: how values lie in the heap. -/
namespace VM
open PySem PySem.Spec PyProof.Rows L2

/-- what the relation leans on: the written part, handles' addresses, the next handle, what is frozen, the heap -/
structure G where
  K : PySem.W.Frag
  ρ : Nat → Addr
  nx : Nat
  F : Addr → Prop
  H : Hp
def kW : Key → W
  | .inl i => .int i
  | .inr x => .str x
/-- an exception object of the own class at C -/
def ExT (a C : Addr) : HO := .ext fun h => ∃ o, h.get? a = some o ∧ Zc (.ref C) none o ∧ ∃ vs, o.data = .fields vs
/-- a list of the written part -/
def KL (K : PySem.W.Frag) (a : Addr) (xs : List V) : Prop := ∃ (its : List Value) (n : Nat), K.lookup a = some { cls := .type "list", data := .seq its.toArray n } ∧ its.length ≤ sizeLine ∧ Vals xs its
/-- a list that is read -/
def SqX (K : PySem.W.Frag) (H : Hp) (a : Addr) (xs : List V) : Prop := Rd H a (.lst xs) ∨ KL K a xs
theorem SqX.sq {K : PySem.W.Frag} {H : Hp} {a : Addr} {xs : List V} (h : SqX K H a xs) : SqL K H a xs := by
  rcases h with h | ⟨its, n, h, z, r⟩
  · exact .inl h
  · exact .inr ⟨_, its.toArray, n, h, rfl, rfl, rfl, by simpa using z, by simpa using r⟩
theorem Inv.listX {X : Cx} {pins : List (Addr × Obj)} {σ : L2.St} {H : Hp} {s : Shared} {a : Addr} {xs : List V} (I : Inv X pins σ H s) (h : SqX X.K H a xs) :
    ∃ (its : List Value) (n : Nat), Vals xs its ∧ s.heap.get? a = some { cls := .type "list", data := .seq its.toArray n } ∧ xs.length ≤ sizeLine := by
  rcases h with h | ⟨its, n, h, z, r⟩
  · obtain ⟨z, its, n, r, e⟩ := h.ok I.hok
    exact ⟨its, n, r, e, z⟩
  · exact ⟨its, n, r, I.kIn _ _ h, by rw [r.length]; exact z⟩
/-- a list that stands still -/
def StL (g : G) (a : Addr) (vs : List V) : Prop := (g.F a ∧ g.H a = some (.lst vs)) ∨ (∃ o, g.H a = some (.frz o (.lst vs))) ∨ KL g.K a vs
theorem StL.sq {g : G} {a : Addr} {vs : List V} (h : StL g a vs) : SqX g.K g.H a vs := by
  rcases h with h | ⟨o, h⟩ | h
  · exact .inl (.inl h.2)
  · exact .inl (.inr ⟨o, h⟩)
  · exact .inr h
def DicR (H : Hp) (R : List V → Prop) (ks : List W) (a : Addr) : Prop :=
  (∃ kvs : List (Key × V), H a = some (.dK kvs) ∧ ks = kvs.map (fun p => kW p.1) ∧ R (kvs.map (·.2))) ∨
  (∃ kvs : List (List Key × V), H a = some (.dT kvs) ∧ ks = kvs.map (fun p => .tup (p.1.map kW)) ∧ R (kvs.map (·.2)))
mutual
def Rep (g : G) : W → V → Prop
  | .non, v => v = .non
  | .bl b, v => v = .bl b
  | .int i, v => v = .int i
  | .str x, v => v = .str x ∧ x.length ≤ strLine ∧ PyData.strOk x = true
  | .tup xs, v => ∃ a vs, v = .ref a ∧ SqT g.K g.H a vs ∧ Reps g xs vs
  | .lst xs, v => ∃ a vs, v = .ref a ∧ StL g a vs ∧ Reps g xs vs
  | .dic ks xs, v => ∃ a, v = .ref a ∧ g.F a ∧ DicR g.H (fun vs => Reps g xs vs) ks a
  | .obj C ks xs, v => ∃ a dx vs, v = .ref a ∧ g.F a ∧ g.H a = some (.ins (He.ga g.K C) dx (ks.zip vs)) ∧ ks.length = vs.length ∧ Reps g xs vs
  | .exc C, v => ∃ a, v = .ref a ∧ g.H a = some (ExT a (He.ga g.K C))
  | .hnd n, v => n < g.nx ∧ v = .ref (g.ρ n)
def Reps (g : G) : List W → List V → Prop
  | [], vs => vs = []
  | x :: r, vs => ∃ v s, vs = v :: s ∧ Rep g x v ∧ Reps g r s
end

/-- what stays whatever a step does -/
def SqO (u : HO) : Prop := (∃ xs, u = .lst xs) ∨ ∃ xs, u = .tup xs
def Stable (F : Addr → Prop) (a : Addr) (o : HO) : Prop := F a ∨ (∃ xs, o = .tup xs) ∨ (∃ ob u, o = .frz ob u ∧ SqO u) ∨ ∃ φ, o = .ext φ
structure G.le (g g' : G) : Prop where
  K : g'.K = g.K
  nx : g.nx ≤ g'.nx
  ρ : ∀ n, n < g.nx → g'.ρ n = g.ρ n
  F : ∀ a, g.F a → g'.F a
  H : ∀ a o, g.H a = some o → Stable g.F a o → g'.H a = some o
theorem G.le.refl (g : G) : g.le g := ⟨rfl, Nat.le_refl _, fun _ _ => rfl, fun _ h => h, fun _ _ h _ => h⟩
theorem Stable.mono {F F' : Addr → Prop} (h : ∀ a, F a → F' a) {x : Addr} {o : HO} (s : Stable F x o) : Stable F' x o := by
  rcases s with s | s | s | s
  · exact .inl (h x s)
  · exact .inr (.inl s)
  · exact .inr (.inr (.inl s))
  · exact .inr (.inr (.inr s))
theorem G.le.trans {g g' g'' : G} (a : g.le g') (b : g'.le g'') : g.le g'' := ⟨b.K.trans a.K, Nat.le_trans a.nx b.nx, fun n h => (b.ρ n (Nat.lt_of_lt_of_le h a.nx)).trans (a.ρ n h), fun x h => b.F x (a.F x h), fun x o h s =>
  b.H x o (a.H x o h s) (s.mono a.F)⟩
section
variable {g g' : G} (l : g.le g')
include l
theorem sqT_le {a : Addr} {vs : List V} (h : SqT g.K g.H a vs) : SqT g'.K g'.H a vs := by
  rw [l.K]
  rcases h with h | h
  · rcases h with h | ⟨o, h⟩
    · exact .inl (.inl (l.H _ _ h (.inr (.inl ⟨_, rfl⟩))))
    · exact .inl (.inr ⟨o, l.H _ _ h (.inr (.inr (.inl ⟨_, _, rfl, .inr ⟨_, rfl⟩⟩)))⟩)
  · exact .inr h
theorem stL_le {a : Addr} {vs : List V} (h : StL g a vs) : StL g' a vs := by
  rcases h with h | ⟨o, h⟩ | h
  · exact .inl ⟨l.F _ h.1, l.H _ _ h.2 (.inl h.1)⟩
  · exact .inr (.inl ⟨o, l.H _ _ h (.inr (.inr (.inl ⟨_, _, rfl, .inl ⟨_, rfl⟩⟩)))⟩)
  · exact .inr (.inr (by rw [l.K]; exact h))
theorem DicR.le {R R' : List V → Prop} (hR : ∀ vs, R vs → R' vs) {ks : List W} {a : Addr} (hF : g.F a) (h : DicR g.H R ks a) : DicR g'.H R' ks a := by
  rcases h with ⟨kvs, h1, h2, h3⟩ | ⟨kvs, h1, h2, h3⟩
  · exact .inl ⟨kvs, l.H _ _ h1 (.inl hF), h2, hR _ h3⟩
  · exact .inr ⟨kvs, l.H _ _ h1 (.inl hF), h2, hR _ h3⟩
mutual
theorem Rep.le : ∀ (w : W) (v : V), Rep g w v → Rep g' w v
  | .non, _, h => by unfold Rep at h ⊢; exact h
  | .bl _, _, h => by unfold Rep at h ⊢; exact h
  | .int _, _, h => by unfold Rep at h ⊢; exact h
  | .str _, _, h => by unfold Rep at h ⊢; exact h
  | .tup xs, v, h => by
    unfold Rep at h ⊢
    obtain ⟨a, vs, e, q, r⟩ := h
    exact ⟨a, vs, e, sqT_le l q, Reps.le xs vs r⟩
  | .lst xs, v, h => by
    unfold Rep at h ⊢
    obtain ⟨a, vs, e, q, r⟩ := h
    exact ⟨a, vs, e, stL_le l q, Reps.le xs vs r⟩
  | .dic ks xs, v, h => by
    unfold Rep at h ⊢
    obtain ⟨a, e, f, q⟩ := h
    exact ⟨a, e, l.F _ f, DicR.le l (fun vs z => Reps.le xs vs z) f q⟩
  | .obj C ks xs, v, h => by
    unfold Rep at h ⊢
    obtain ⟨a, dx, vs, e, f, q, z, r⟩ := h
    exact ⟨a, dx, vs, e, l.F _ f, by rw [l.K]; exact l.H _ _ q (.inl f), z, Reps.le xs vs r⟩
  | .exc C, v, h => by
    unfold Rep at h ⊢
    obtain ⟨a, e, q⟩ := h
    exact ⟨a, e, by rw [l.K]; exact l.H _ _ q (.inr (.inr (.inr ⟨_, rfl⟩)))⟩
  | .hnd n, v, h => by
    unfold Rep at h ⊢
    exact ⟨Nat.lt_of_lt_of_le h.1 l.nx, by rw [h.2, l.ρ n h.1]⟩
theorem Reps.le : ∀ (ws : List W) (vs : List V), Reps g ws vs → Reps g' ws vs
  | [], _, h => by unfold Reps at h ⊢; exact h
  | w :: ws, vs, h => by
    unfold Reps at h ⊢
    obtain ⟨v, s, e, a, b⟩ := h
    exact ⟨v, s, e, Rep.le w v a, Reps.le ws s b⟩
end
end
/-! ### lists of values -/
theorem Reps.length {g : G} : ∀ {ws : List W} {vs : List V}, Reps g ws vs → ws.length = vs.length
  | [], _, h => by unfold Reps at h; rw [h] <;> rfl
  | w :: ws, vs, h => by
    unfold Reps at h
    obtain ⟨v, s, e, _, b⟩ := h
    rw [e, List.length_cons, List.length_cons, Reps.length b]
theorem Reps.nil {g : G} : Reps g [] [] := by unfold Reps; rfl
theorem Reps.cons {g : G} {w : W} {v : V} {ws : List W} {vs : List V} (h : Rep g w v) (t : Reps g ws vs) : Reps g (w :: ws) (v :: vs) := by unfold Reps; exact ⟨v, vs, rfl, h, t⟩
theorem Reps.uncons {g : G} {w : W} {v : V} {ws : List W} {vs : List V} (h : Reps g (w :: ws) (v :: vs)) : Rep g w v ∧ Reps g ws vs := by
  unfold Reps at h
  obtain ⟨v', s, e, a, b⟩ := h
  cases e
  exact ⟨a, b⟩
theorem Reps.get {g : G} : ∀ {ws : List W} {vs : List V} {i : Nat} {w : W}, Reps g ws vs → ws[i]? = some w → ∃ v, vs[i]? = some v ∧ Rep g w v
  | [], _, _, _, _, e => by simp at e
  | w :: ws, vs, i, x, h, e => by
    unfold Reps at h
    obtain ⟨v, s, ev, a, b⟩ := h
    subst ev
    cases i with
    | zero => simp at e; subst e; exact ⟨v, rfl, a⟩
    | succ i =>
      obtain ⟨u, h1, h2⟩ := Reps.get (i := i) (w := x) b (by simpa using e)
      exact ⟨u, by simpa using h1, h2⟩
theorem Reps.append {g : G} : ∀ {ws xs : List W} {vs us : List V}, Reps g ws vs → Reps g xs us → Reps g (ws ++ xs) (vs ++ us)
  | [], _, _, _, h, t => by unfold Reps at h; subst h; exact t
  | w :: ws, xs, vs, us, h, t => by
    unfold Reps at h
    obtain ⟨v, s, ev, a, b⟩ := h
    subst ev
    exact Reps.cons a (Reps.append b t)
theorem Reps.take {g : G} : ∀ {ws : List W} {vs : List V} (n : Nat), Reps g ws vs → Reps g (ws.take n) (vs.take n)
  | _, _, 0, _ => by rw [List.take_zero, List.take_zero]; exact Reps.nil
  | [], vs, n + 1, h => by unfold Reps at h; subst h; exact Reps.nil
  | w :: ws, vs, n + 1, h => by
    unfold Reps at h
    obtain ⟨v, s, ev, a, b⟩ := h
    subst ev
    exact Reps.cons a (Reps.take n b)
theorem Reps.drop {g : G} : ∀ {ws : List W} {vs : List V} (n : Nat), Reps g ws vs → Reps g (ws.drop n) (vs.drop n)
  | _, _, 0, h => h
  | [], vs, n + 1, h => by unfold Reps at h; subst h; exact Reps.nil
  | w :: ws, vs, n + 1, h => by
    unfold Reps at h
    obtain ⟨v, s, ev, a, b⟩ := h
    subst ev
    exact Reps.drop n b
theorem Reps.set {g : G} {x : W} {u : V} (r : Rep g x u) : ∀ {ws : List W} {vs : List V} (i : Nat), Reps g ws vs → Reps g (ws.set i x) (vs.set i u)
  | [], vs, i, h => by unfold Reps at h; subst h; exact Reps.nil
  | w :: ws, vs, 0, h => by
    unfold Reps at h
    obtain ⟨v, s, ev, a, b⟩ := h
    subst ev
    exact Reps.cons r b
  | w :: ws, vs, i + 1, h => by
    unfold Reps at h
    obtain ⟨v, s, ev, a, b⟩ := h
    subst ev
    exact Reps.cons a (Reps.set r i b)
theorem Reps.rev {g : G} {ws : List W} {vs : List V} (h : Reps g ws vs) : Reps g ws.reverse vs.reverse := by
  induction ws generalizing vs with
  | nil => unfold Reps at h; subst h; exact Reps.nil
  | cons w ws ih =>
    unfold Reps at h
    obtain ⟨v, s, ev, a, b⟩ := h
    subst ev
    rw [List.reverse_cons, List.reverse_cons]
    exact Reps.append (ih b) (Reps.cons a Reps.nil)

/-! ### entries: operands and slots -/
def OwnR (g : G) : MO → Addr → Prop
  | .lst xs, a => ∃ vs, g.H a = some (.lst vs) ∧ Reps g xs vs
  | .dic ks xs, a => DicR g.H (fun vs => Reps g xs vs) ks a
/-- what may be read (a list that may yet change, too) -/
def RdW (g : G) : W → V → Prop
  | .lst xs, v => ∃ a vs, v = .ref a ∧ SqX g.K g.H a vs ∧ Reps g xs vs
  | .dic ks xs, v => ∃ a, v = .ref a ∧ DicR g.H (fun vs => Reps g xs vs) ks a
  | w, v => Rep g w v
def ER (g : G) : Sl → Option V → Prop
  | .no, _ => True
  | .val w, v => ∃ x, v = some x ∧ Rep g w x
  | .own m, v => ∃ a, v = some (.ref a) ∧ OwnR g m a
  | .pk w, v => ∃ x, v = some x ∧ RdW g w x ∧ ∀ a, x = .ref a → g.H a ≠ none
theorem Rep.rd {g : G} {w : W} {v : V} (h : Rep g w v) : RdW g w v := by
  cases w with
  | lst xs =>
    unfold Rep at h
    obtain ⟨a, vs, e, q, r⟩ := h
    exact ⟨a, vs, e, q.sq, r⟩
  | dic ks xs =>
    unfold Rep at h
    obtain ⟨a, e, f, q⟩ := h
    exact ⟨a, e, q⟩
  | _ => exact h
theorem OwnR.rd {g : G} {m : MO} {a : Addr} (h : OwnR g m a) : RdW g m.fz (.ref a) := by
  cases m with
  | lst xs =>
    obtain ⟨vs, q, r⟩ := h
    exact ⟨a, vs, rfl, .inl (.inl q), r⟩
  | dic ks xs => exact ⟨a, rfl, h⟩
theorem ER.rd {g : G} {sl : Sl} {v : Option V} {w : W} (h : ER g sl v) (e : sl.rd = some w) : ∃ x, v = some x ∧ RdW g w x := by
  cases sl with
  | no => cases e
  | val w' =>
    cases e
    obtain ⟨x, e, r⟩ := h
    exact ⟨x, e, r.rd⟩
  | own m =>
    cases e
    obtain ⟨a, e, r⟩ := h
    exact ⟨_, e, r.rd⟩
  | pk w' =>
    cases e
    obtain ⟨x, e, r, _⟩ := h
    exact ⟨x, e, r⟩
/-- the same cells of a list that is read -/
structure G.same (g g' : G) (a : Addr) : Prop where
  le : g.le g'
  at_ : g'.H a = g.H a
theorem OwnR.le {g g' : G} (l : g.le g') {m : MO} {a : Addr} (e : ∀ o, g.H a = some o → g'.H a = some o) (h : OwnR g m a) : OwnR g' m a := by
  cases m with
  | lst xs =>
    obtain ⟨vs, q, r⟩ := h
    exact ⟨vs, e _ q, Reps.le l _ _ r⟩
  | dic ks xs =>
    rcases h with ⟨kvs, h1, h2, h3⟩ | ⟨kvs, h1, h2, h3⟩
    · exact .inl ⟨kvs, e _ h1, h2, Reps.le l _ _ h3⟩
    · exact .inr ⟨kvs, e _ h1, h2, Reps.le l _ _ h3⟩
theorem RdW.le {g g' : G} (l : g.le g') {w : W} {v : V} (e : ∀ a o, v = .ref a → g.H a = some o → g'.H a = some o) (h : RdW g w v) : RdW g' w v := by
  cases w with
  | lst xs =>
    obtain ⟨a, vs, ev, q, r⟩ := h
    refine ⟨a, vs, ev, ?_, Reps.le l _ _ r⟩
    rw [l.K]
    rcases q with (q | ⟨o, q⟩) | q
    · exact .inl (.inl (e a _ ev q))
    · exact .inl (.inr ⟨o, e a _ ev q⟩)
    · exact .inr q
  | dic ks xs =>
    obtain ⟨a, ev, q⟩ := h
    refine ⟨a, ev, ?_⟩
    rcases q with ⟨kvs, h1, h2, h3⟩ | ⟨kvs, h1, h2, h3⟩
    · exact .inl ⟨kvs, e a _ ev h1, h2, Reps.le l _ _ h3⟩
    · exact .inr ⟨kvs, e a _ ev h1, h2, Reps.le l _ _ h3⟩
  | _ => exact Rep.le l _ _ h
end VM

set_option Elab.async false
set_option linter.all false
/-! VM3: a state and what steps do to it. -/
namespace VM
open PySem PySem.Spec PyProof.Rows L2

/-- an instance's fields, what they own -/
inductive FldsR (g : G) : List Sl → List V → List Addr → Prop
  | nil : FldsR g [] [] []
  | val {w : W} {v : V} {xs : List Sl} {vs : List V} {D : List Addr} : Rep g w v → FldsR g xs vs D → FldsR g (.val w :: xs) (v :: vs) D
  | own {m : MO} {a : Addr} {xs : List Sl} {vs : List V} {D : List Addr} : OwnR g m a → FldsR g xs vs D → FldsR g (.own m :: xs) (.ref a :: vs) (a :: D)
/-- the cells, what they own -/
inductive CellsR (g : G) : List (Nat × Cell) → List Addr → Prop
  | nil : CellsR g [] []
  | mo {n : Nat} {m : MO} {r : List (Nat × Cell)} {C : List Addr} : n < g.nx → OwnR g m (g.ρ n) → CellsR g r C → CellsR g ((n, .mo m) :: r) (g.ρ n :: C)
  | ins {n : Nat} {Cn : Str} {ks : List Str} {xs : List Sl} {vs : List V} {dx : Addr} {r : List (Nat × Cell)} {C D : List Addr} : n < g.nx → g.H (g.ρ n) = some (.ins (He.ga g.K Cn) dx (ks.zip vs)) → ks.length = vs.length →
      FldsR g xs vs D → CellsR g r C → CellsR g ((n, .ins Cn ks xs) :: r) (g.ρ n :: (D ++ C))
  | fz {n : Nat} {w : W} {r : List (Nat × Cell)} {C : List Addr} : n < g.nx → Rep g w (.ref (g.ρ n)) → CellsR g r C → CellsR g ((n, .fz w) :: r) C
theorem FldsR.le {g g' : G} (l : g.le g') {xs : List Sl} {vs : List V} {D : List Addr} (h : FldsR g xs vs D) (e : ∀ a ∈ D, ∀ o, g.H a = some o → g'.H a = some o) : FldsR g' xs vs D := by
  induction h with
  | nil => exact .nil
  | val r _ ih => exact .val (Rep.le l _ _ r) (ih e)
  | own r _ ih => exact .own (r.le l (e _ List.mem_cons_self)) (ih fun a h => e a (List.mem_cons_of_mem _ h))
theorem CellsR.le {g g' : G} (l : g.le g') {cs : List (Nat × Cell)} {C : List Addr} (h : CellsR g cs C) (e : ∀ a ∈ C, ∀ o, g.H a = some o → g'.H a = some o) : CellsR g' cs C := by
  induction h with
  | nil => exact .nil
  | mo hn r _ ih =>
    have := CellsR.mo (g := g') (Nat.lt_of_lt_of_le hn l.nx) (by rw [l.ρ _ hn]; exact r.le l (e _ List.mem_cons_self)) (ih fun a h => e a (List.mem_cons_of_mem _ h))
    rw [l.ρ _ hn] at this
    exact this
  | ins hn r hl hf _ ih =>
    have := CellsR.ins (g := g') (Nat.lt_of_lt_of_le hn l.nx) (by rw [l.ρ _ hn, l.K]; exact e _ List.mem_cons_self _ r) hl
      (hf.le l fun a h => e a (List.mem_cons_of_mem _ (List.mem_append_left _ h))) (ih fun a h => e a (List.mem_cons_of_mem _ (List.mem_append_right _ h)))
    rw [l.ρ _ hn] at this
    exact this
  | fz hn r _ ih => exact .fz (Nat.lt_of_lt_of_le hn l.nx) (by rw [l.ρ _ hn]; exact Rep.le l _ _ r) (ih e)

theorem CellsR.lookW {g : G} {n : Nat} {w : W} {cs : List (Nat × Cell)} {C : List Addr} (h : CellsR g cs C) (e : cellW cs n = some w) : RdW g w (.ref (g.ρ n)) := by
  induction h with
  | nil => cases e
  | @mo k m' r C hn o _ ih =>
    have e : (if k = n then some m'.fz else cellW r n) = some w := e
    split at e
    · rename_i z
      cases e
      subst z
      exact o.rd
    · exact ih e
  | @ins k Cn ks xs vs dx r C D hn hh hl hf _ ih =>
    have e : (if k = n then none else cellW r n) = some w := e
    split at e
    · cases e
    · exact ih e
  | @fz k w' r C hn rp _ ih =>
    have e : (if k = n then some w' else cellW r n) = some w := e
    split at e
    · rename_i z
      cases e
      subst z
      exact rp.rd
    · exact ih e
theorem CellsR.look {g : G} {n : Nat} {m : MO} {cs : List (Nat × Cell)} {C : List Addr} (h : CellsR g cs C) (e : cellMo cs n = some m) : OwnR g m (g.ρ n) ∧ g.ρ n ∈ C := by
  induction h with
  | nil => cases e
  | @mo k m' r C hn o _ ih =>
    have e : (if k = n then some m' else cellMo r n) = some m := e
    split at e
    · rename_i z
      cases e
      subst z
      exact ⟨o, List.mem_cons_self⟩
    · exact ⟨(ih e).1, List.mem_cons_of_mem _ (ih e).2⟩
  | @ins k Cn ks xs vs dx r C D hn hh hl hf _ ih =>
    have e : (if k = n then none else cellMo r n) = some m := e
    split at e
    · cases e
    · exact ⟨(ih e).1, List.mem_cons_of_mem _ (List.mem_append_right _ (ih e).2)⟩
  | @fz k w' r C hn rp _ ih =>
    have e : (if k = n then none else cellMo r n) = some m := e
    split at e
    · cases e
    · exact ih e
theorem ER.rdS {g : G} {S : Store} {C : List Addr} {sl : Sl} {v : Option V} {w : W} (h : ER g sl v) (hc : CellsR g S.cells C) (e : sl.rdS S = some w) : ∃ x, v = some x ∧ RdW g w x := by
  unfold Sl.rdS at e
  split at e
  · rename_i n
    obtain ⟨x, ev, r⟩ := h
    have r : n < g.nx ∧ x = .ref (g.ρ n) := by unfold Rep at r; exact r
    exact ⟨x, ev, by rw [r.2]; exact hc.lookW e⟩
  · exact h.rd e
/-- the state at a def's entry -/
structure Base where
  K : PySem.W.Frag
  H0 : Hp
  F0 : Addr → Prop
  ρ0 : Nat → Addr
  nx0 : Nat
  A0 : List Addr
/-- entries gs with their values gv (operands ahead, then slots), the store -/
structure StR (B : Base) (F : Addr → Prop) (ρ : Nat → Addr) (gs : List Sl) (gv : List (Option V)) (S : Store) (H : Hp) (C : List Addr) : Prop where
  len : gs.length = gv.length
  ent : ∀ (i : Nat) sl v, gs[i]? = some sl → gv[i]? = some v → ER ⟨B.K, ρ, S.next, F, H⟩ sl v
  uniq : ∀ (i j : Nat) m m' a, gs[i]? = some (.own m) → gv[i]? = some (some (.ref a)) → gs[j]? = some (.own m') → gv[j]? = some (some (.ref a)) → i = j
  nF : ∀ (i : Nat) m a, gs[i]? = some (.own m) → gv[i]? = some (some (.ref a)) → ¬ F a
  nC : ∀ (i : Nat) m a, gs[i]? = some (.own m) → gv[i]? = some (some (.ref a)) → a ∉ C
  pC : ∀ (i : Nat) w a, gs[i]? = some (.pk w) → gv[i]? = some (some (.ref a)) → a ∉ C
  cel : CellsR ⟨B.K, ρ, S.next, F, H⟩ S.cells C
  cnd : C.Nodup
  cF : ∀ a ∈ C, ¬ F a
  cH : ∀ a ∈ C, H a ≠ none
  fT : ∀ a, F a → H a ≠ none
  keep : ∀ a o, B.H0 a = some o → a ∉ B.A0 → H a = some o
  fF : ∀ a, B.F0 a → F a
  fN : ∀ a, F a → B.F0 a ∨ a ∈ B.A0 ∨ B.H0 a = none
  cN : ∀ a ∈ C, a ∈ B.A0 ∨ B.H0 a = none
  oN : ∀ (i : Nat) m a, gs[i]? = some (.own m) → gv[i]? = some (some (.ref a)) → a ∈ B.A0 ∨ B.H0 a = none
  rho : ∀ n, n < B.nx0 → ρ n = B.ρ0 n
  nx : B.nx0 ≤ S.next
section
variable {B : Base} {F : Addr → Prop} {ρ : Nat → Addr} {gs : List Sl} {gv : List (Option V)} {S : Store} {H : Hp} {C : List Addr}
abbrev gOf (B : Base) (F : Addr → Prop) (ρ : Nat → Addr) (S : Store) (H : Hp) : G := ⟨B.K, ρ, S.next, F, H⟩
/-- a new object changes nothing -/
theorem le_new {p : Addr} {o : HO} (hp : H p = none) : (gOf B F ρ S H).le (gOf B F ρ S (upd H p o)) :=
  ⟨rfl, Nat.le_refl _, fun _ _ => rfl, fun _ h => h, fun a u e _ => by
    show upd H p o a = some u
    rw [upd_ne (ne_of_none e hp)]; exact e⟩
theorem upd_keep {H : Hp} {p a : Addr} {o : HO} (hp : H p = none) (ha : H a ≠ none) : upd H p o a = H a := upd_ne fun e => ha (by rw [e]; exact hp)
theorem ER.le {g g' : G} (l : g.le g') {sl : Sl} {v : Option V} (h : ER g sl v) (e : ∀ a o, v = some (.ref a) → (∃ m, sl = .own m) ∨ (∃ w, sl = .pk w) → g.H a = some o → g'.H a = some o) : ER g' sl v := by
  cases sl with
  | no => trivial
  | val w =>
    obtain ⟨x, ev, r⟩ := h
    exact ⟨x, ev, Rep.le l _ _ r⟩
  | own m =>
    obtain ⟨a, ev, r⟩ := h
    exact ⟨a, ev, r.le l fun o q => e a o ev (.inl ⟨m, rfl⟩) q⟩
  | pk w =>
    obtain ⟨x, ev, r, tr⟩ := h
    have e' : ∀ a o, x = .ref a → g.H a = some o → g'.H a = some o := fun a o ex q => e a o (by rw [ev, ex]) (.inr ⟨w, rfl⟩) q
    refine ⟨x, ev, r.le l e', fun a ex => ?_⟩
    cases q : g.H a with
    | none => exact (tr a ex q).elim
    | some o => rw [e' a o ex q]; simp
/-- what is tracked: an owned list, a list that is read -/
theorem OwnR.tr {g : G} {m : MO} {a : Addr} (h : OwnR g m a) : g.H a ≠ none := by
  cases m with
  | lst xs =>
    obtain ⟨vs, q, _⟩ := h
    rw [q]; simp
  | dic ks xs =>
    rcases h with ⟨kvs, h1, _⟩ | ⟨kvs, h1, _⟩
    · rw [h1]; simp
    · rw [h1]; simp
/-- a change of the heap that leaves alone what counts -/
theorem StR.heap {H' : Hp} (h : StR B F ρ gs gv S H C) (l : ∀ a o, H a = some o → H' a = some o) : StR B F ρ gs gv S H' C := by
  have le : (gOf B F ρ S H).le (gOf B F ρ S H') := ⟨rfl, Nat.le_refl _, fun _ _ => rfl, fun _ q => q, fun a o e _ => l a o e⟩
  have kp : ∀ {a : Addr}, H a ≠ none → H' a = H a := fun {a} q => by
    cases e : H a with
    | none => exact (q e).elim
    | some o => exact l a o e
  have er : ∀ (i : Nat) sl v, gs[i]? = some sl → gv[i]? = some v → ER (gOf B F ρ S H') sl v := fun i sl v e1 e2 => (h.ent i sl v e1 e2).le le fun a o _ _ q => l a o q
  exact ⟨h.len, er, h.uniq, h.nF, h.nC, h.pC, h.cel.le le fun a _ o q => l a o q, h.cnd, h.cF, fun a q => by rw [kp (h.cH a q)]; exact h.cH a q, fun a q => by rw [kp (h.fT a q)]; exact h.fT a q,
    fun a o e q => l _ _ (h.keep a o e q), h.fF, h.fN, h.cN, h.oN, h.rho, h.nx⟩
theorem StR.new {p : Addr} {o : HO} (h : StR B F ρ gs gv S H C) (hp : H p = none) : StR B F ρ gs gv S (upd H p o) C := h.heap fun a u e => by rw [upd_ne (ne_of_none e hp)]; exact e
/-- what is fresh is nobody's -/
theorem StR.fresh0 (h : StR B F ρ gs gv S H C) {p : Addr} (hp : H p = none) : B.H0 p = none ∨ p ∈ B.A0 := by
  cases e : B.H0 p with
  | none => exact .inl rfl
  | some o =>
    by_cases q : p ∈ B.A0
    · exact .inr q
    · have := h.keep p o e q
      rw [hp] at this; cases this
/-- push a value -/
theorem StR.push {w : W} {v : V} (h : StR B F ρ gs gv S H C) (r : Rep (gOf B F ρ S H) w v) : StR B F ρ (.val w :: gs) (some v :: gv) S H C := by
  refine ⟨by simp [h.len], fun i sl x e1 e2 => ?_, fun i j m m' a e1 e2 e3 e4 => ?_, fun i m a e1 e2 => ?_, fun i m a e1 e2 => ?_, fun i m a e1 e2 => ?_, h.cel, h.cnd, h.cF, h.cH, h.fT, h.keep, h.fF, h.fN, h.cN, fun i m a e1 e2 => ?_, h.rho, h.nx⟩
  · cases i with
    | zero => cases e1; cases e2; exact ⟨v, rfl, r⟩
    | succ i => exact h.ent i sl x e1 e2
  · cases i with
    | zero => cases e1
    | succ i =>
      cases j with
      | zero => cases e3
      | succ j => rw [h.uniq i j m m' a e1 e2 e3 e4]
  · cases i with
    | zero => cases e1
    | succ i => exact h.nF i m a e1 e2
  · cases i with
    | zero => cases e1
    | succ i => exact h.nC i m a e1 e2
  · cases i with
    | zero => cases e1
    | succ i => exact h.pC i m a e1 e2
  · cases i with
    | zero => cases e1
    | succ i => exact h.oN i m a e1 e2
/-- push what is read: an entry's own list -/
theorem StR.peek {w : W} {v : V} (h : StR B F ρ gs gv S H C) (r : RdW (gOf B F ρ S H) w v) (ht : ∀ a, v = .ref a → H a ≠ none) (hc : ∀ a, v = .ref a → a ∉ C) : StR B F ρ (.pk w :: gs) (some v :: gv) S H C := by
  refine ⟨by simp [h.len], fun i sl x e1 e2 => ?_, fun i j m m' a e1 e2 e3 e4 => ?_, fun i m a e1 e2 => ?_, fun i m a e1 e2 => ?_, fun i m a e1 e2 => ?_, h.cel, h.cnd, h.cF, h.cH, h.fT, h.keep, h.fF, h.fN, h.cN, fun i m a e1 e2 => ?_, h.rho, h.nx⟩
  · cases i with
    | zero => cases e1; cases e2; exact ⟨v, rfl, r, ht⟩
    | succ i => exact h.ent i sl x e1 e2
  · cases i with
    | zero => cases e1
    | succ i =>
      cases j with
      | zero => cases e3
      | succ j => rw [h.uniq i j m m' a e1 e2 e3 e4]
  · cases i with
    | zero => cases e1
    | succ i => exact h.nF i m a e1 e2
  · cases i with
    | zero => cases e1
    | succ i => exact h.nC i m a e1 e2
  · cases i with
    | zero => cases e1; exact hc a (by cases e2; rfl)
    | succ i => exact h.pC i m a e1 e2
  · cases i with
    | zero => cases e1
    | succ i => exact h.oN i m a e1 e2
/-- push what is new and owned -/
theorem StR.pushOwn {m : MO} {p : Addr} {o : HO} (h : StR B F ρ gs gv S H C) (hp : H p = none) (r : OwnR (gOf B F ρ S (upd H p o)) m p) : StR B F ρ (.own m :: gs) (some (.ref p) :: gv) S (upd H p o) C := by
  have h' := h.new (o := o) hp
  have np : ∀ (i : Nat) m, gs[i]? = some (.own m) → gv[i]? = some (some (.ref p)) → False := fun i m e1 e2 => by
    obtain ⟨a, ev, q⟩ := h.ent i _ _ e1 e2
    cases ev
    exact q.tr hp
  have pF : ¬ F p := fun q => h.fT p q hp
  have pC : p ∉ C := fun q => h.cH p q hp
  have pN : p ∈ B.A0 ∨ B.H0 p = none := (h.fresh0 hp).symm
  refine ⟨by simp [h.len], fun i sl x e1 e2 => ?_, fun i j m1 m' a e1 e2 e3 e4 => ?_, fun i m a e1 e2 => ?_, fun i m a e1 e2 => ?_, fun i m a e1 e2 => ?_, h'.cel, h'.cnd, h'.cF, h'.cH, h'.fT, h'.keep, h'.fF, h'.fN, h'.cN, fun i m a e1 e2 => ?_, h'.rho, h'.nx⟩
  · cases i with
    | zero => cases e1; cases e2; exact ⟨p, rfl, r⟩
    | succ i => exact h'.ent i sl x e1 e2
  · cases i with
    | zero =>
      cases e2
      cases j with
      | zero => rfl
      | succ j => exact (np j m' e3 e4).elim
    | succ i =>
      cases j with
      | zero => cases e4; exact (np i m1 e1 e2).elim
      | succ j => rw [h.uniq i j m1 m' a e1 e2 e3 e4]
  · cases i with
    | zero => cases e2; exact pF
    | succ i => exact h.nF i m a e1 e2
  · cases i with
    | zero => cases e2; exact pC
    | succ i => exact h.nC i m a e1 e2
  · cases i with
    | zero => cases e1
    | succ i => exact h.pC i m a e1 e2
  · cases i with
    | zero => cases e2; exact pN
    | succ i => exact h.oN i m a e1 e2
/-- the first entry is dropped -/
theorem StR.pop {sl : Sl} {v : Option V} (h : StR B F ρ (sl :: gs) (v :: gv) S H C) : StR B F ρ gs gv S H C :=
  ⟨by have := h.len; simpa using this, fun i sl x e1 e2 => h.ent (i + 1) sl x e1 e2, fun i j m m' a e1 e2 e3 e4 => by have := h.uniq (i + 1) (j + 1) m m' a e1 e2 e3 e4; omega,
    fun i m a e1 e2 => h.nF (i + 1) m a e1 e2, fun i m a e1 e2 => h.nC (i + 1) m a e1 e2, fun i m a e1 e2 => h.pC (i + 1) m a e1 e2, h.cel, h.cnd, h.cF, h.cH, h.fT, h.keep, h.fF, h.fN, h.cN,
    fun i m a e1 e2 => h.oN (i + 1) m a e1 e2, h.rho, h.nx⟩
theorem StR.pops : ∀ (xs : List Sl) (vs : List (Option V)), xs.length = vs.length → StR B F ρ (xs ++ gs) (vs ++ gv) S H C → StR B F ρ gs gv S H C
  | [], [], _, h => h
  | x :: xs, v :: vs, e, h => StR.pops xs vs (by simpa using e) (StR.pop (sl := x) (v := v) h)
  | [], _ :: _, e, _ => by simp at e
  | _ :: _, [], e, _ => by simp at e
theorem StR.top {sl : Sl} {v : Option V} (h : StR B F ρ (sl :: gs) (v :: gv) S H C) : ER (gOf B F ρ S H) sl v := h.ent 0 sl v rfl rfl
/-- an owned entry is frozen where it stands -/
theorem StR.freezeAt {i : Nat} {m : MO} {a : Addr} (h : StR B F ρ gs gv S H C) (e1 : gs[i]? = some (.own m)) (e2 : gv[i]? = some (some (.ref a))) :
    StR B (fun b => F b ∨ b = a) ρ (gs.set i (.val m.fz)) gv S H C ∧ Rep (gOf B (fun b => F b ∨ b = a) ρ S H) m.fz (.ref a) := by
  have le : (gOf B F ρ S H).le (gOf B (fun b => F b ∨ b = a) ρ S H) := ⟨rfl, Nat.le_refl _, fun _ _ => rfl, fun _ q => .inl q, fun b o e _ => e⟩
  obtain ⟨a', ev, own⟩ := h.ent i _ _ e1 e2
  cases ev
  have rp : Rep (gOf B (fun b => F b ∨ b = a) ρ S H) m.fz (.ref a) := by
    cases m with
    | lst xs =>
      obtain ⟨vs, q, r⟩ := own
      show Rep _ (.lst xs) _
      unfold Rep
      exact ⟨a, vs, rfl, .inl ⟨.inr rfl, q⟩, Reps.le le _ _ r⟩
    | dic ks xs =>
      show Rep _ (.dic ks xs) _
      unfold Rep
      refine ⟨a, rfl, .inr rfl, ?_⟩
      rcases own with ⟨kvs, h1, h2, h3⟩ | ⟨kvs, h1, h2, h3⟩
      · exact .inl ⟨kvs, h1, h2, Reps.le le _ _ h3⟩
      · exact .inr ⟨kvs, h1, h2, Reps.le le _ _ h3⟩
  have hi : i < gs.length := (List.getElem?_eq_some_iff.mp e1).1
  have other : ∀ {j : Nat} {sl : Sl}, (gs.set i (.val m.fz))[j]? = some sl → (j = i ∧ sl = .val m.fz) ∨ (j ≠ i ∧ gs[j]? = some sl) := fun {j sl} e => by
    by_cases q : i = j
    · subst q
      rw [List.getElem?_set_self hi] at e
      exact .inl ⟨rfl, (Option.some.inj e).symm⟩
    · rw [List.getElem?_set_ne q] at e
      exact .inr ⟨fun z => q z.symm, e⟩
  have ownO : ∀ {j : Nat} {m' : MO}, (gs.set i (.val m.fz))[j]? = some (.own m') → j ≠ i ∧ gs[j]? = some (.own m') := fun {j m'} e => by
    rcases other e with ⟨_, q⟩ | q
    · cases q
    · exact q
  have pkO : ∀ {j : Nat} {w : W}, (gs.set i (.val m.fz))[j]? = some (.pk w) → gs[j]? = some (.pk w) := fun {j w} e => by
    rcases other e with ⟨_, q⟩ | q
    · cases q
    · exact q.2
  refine ⟨⟨by rw [List.length_set]; exact h.len, fun j sl v q1 q2 => ?_, fun j k m1 m2 b q1 q2 q3 q4 => h.uniq j k m1 m2 b (ownO q1).2 q2 (ownO q3).2 q4, fun j m1 b q1 q2 q3 => ?_, fun j m1 b q1 q2 => h.nC j m1 b (ownO q1).2 q2,
    fun j w b q1 q2 => h.pC j w b (pkO q1) q2, h.cel.le le fun _ _ _ q => q, h.cnd, fun b q1 q2 => ?_, h.cH, fun b q => ?_, h.keep, fun b q => .inl (h.fF b q), fun b q => ?_, h.cN, fun j m1 b q1 q2 => h.oN j m1 b (ownO q1).2 q2, h.rho, h.nx⟩, rp⟩
  · rcases other q1 with ⟨rfl, rfl⟩ | ⟨_, q⟩
    · rw [e2] at q2
      cases q2
      exact ⟨_, rfl, rp⟩
    · exact (h.ent j sl v q q2).le le fun _ _ _ _ q => q
  · rcases q3 with q3 | q3
    · exact h.nF j m1 b (ownO q1).2 q2 q3
    · subst q3
      exact (ownO q1).1 (h.uniq j i m1 m b (ownO q1).2 q2 e1 e2)
  · rcases q2 with q2 | q2
    · exact h.cF b q1 q2
    · subst q2
      exact h.nC i m b e1 e2 q1
  · rcases q with q | q
    · exact h.fT b q
    · subst q
      exact own.tr
  · rcases q with q | q
    · exact h.fN b q
    · subst q
      exact .inr (h.oN i m b e1 e2)
/-- what is owned may change -/
def IsM : HO → Prop
  | .lst _ => True
  | .dK _ => True
  | .dT _ => True
  | .ins _ _ _ => True
  | _ => False
theorem OwnR.isM {g : G} {m : MO} {a : Addr} (h : OwnR g m a) : ∃ o, g.H a = some o ∧ IsM o := by
  cases m with
  | lst xs =>
    obtain ⟨vs, q, _⟩ := h
    exact ⟨_, q, trivial⟩
  | dic ks xs =>
    rcases h with ⟨kvs, h1, _⟩ | ⟨kvs, h1, _⟩
    · exact ⟨_, h1, trivial⟩
    · exact ⟨_, h1, trivial⟩
theorem FldsR.isM {g : G} {xs : List Sl} {vs : List V} {D : List Addr} (h : FldsR g xs vs D) : ∀ a ∈ D, ∃ o, g.H a = some o ∧ IsM o := by
  induction h with
  | nil => intro a ha; cases ha
  | val _ _ ih => exact ih
  | own r _ ih =>
    intro a ha
    rcases List.mem_cons.mp ha with rfl | ha
    · exact r.isM
    · exact ih a ha
theorem CellsR.isM {g : G} {cs : List (Nat × Cell)} {C : List Addr} (h : CellsR g cs C) : ∀ a ∈ C, ∃ o, g.H a = some o ∧ IsM o := by
  induction h with
  | nil => intro a ha; cases ha
  | mo _ r _ ih =>
    intro a ha
    rcases List.mem_cons.mp ha with rfl | ha
    · exact r.isM
    · exact ih a ha
  | ins _ r _ hf _ ih =>
    intro a ha
    rcases List.mem_cons.mp ha with rfl | ha
    · exact ⟨_, r, trivial⟩
    · rcases List.mem_append.mp ha with ha | ha
      · exact hf.isM a ha
      · exact ih a ha
  | fz _ _ _ ih => exact ih
theorem Stable.notM {F : Addr → Prop} {a : Addr} {o : HO} (s : Stable F a o) (m : IsM o) : F a := by
  rcases s with s | ⟨_, rfl⟩ | ⟨_, _, rfl, _⟩ | ⟨_, rfl⟩
  · exact s
  · exact m.elim
  · exact m.elim
  · exact m.elim
/-- behind a call: what the callee left, what the caller has -/
theorem StR.call {F' : Addr → Prop} {ρ' : Nat → Addr} {rs : List Sl} {rv : List (Option V)} {S' : Store} {H' : Hp} {C' : List Addr} (h : StR B F ρ gs gv S H C)
    (q : StR ⟨B.K, H, F, ρ, S.next, C⟩ F' ρ' rs rv S' H' C') : StR B F' ρ' (rs ++ gs) (rv ++ gv) S' H' C' := by
  have le : (gOf B F ρ S H).le (gOf B F' ρ' S' H') := ⟨rfl, q.nx, q.rho, q.fF, fun a o e s => by
    by_cases ha : a ∈ C
    · obtain ⟨o', e', m⟩ := h.cel.isM a ha
      have e' : H a = some o' := e'
      rw [show H a = some o from e] at e'
      cases e'
      exact (h.cF a ha (s.notM m)).elim
    · exact q.keep a o e ha⟩
  have hl := q.len
  have split : ∀ {i : Nat} {sl : Sl} {v : Option V}, (rs ++ gs)[i]? = some sl → (rv ++ gv)[i]? = some v → (i < rs.length ∧ rs[i]? = some sl ∧ rv[i]? = some v) ∨ (rs.length ≤ i ∧ gs[i - rs.length]? = some sl ∧ gv[i - rs.length]? = some v) := fun {i sl v} e1 e2 => by
    by_cases hi : i < rs.length
    · rw [List.getElem?_append_left hi] at e1
      rw [List.getElem?_append_left (by omega)] at e2
      exact .inl ⟨hi, e1, e2⟩
    · rw [List.getElem?_append_right (by omega)] at e1
      rw [List.getElem?_append_right (by omega)] at e2
      exact .inr ⟨by omega, e1, by rw [hl]; exact e2⟩
  have old : ∀ {i : Nat} {m : MO} {a : Addr}, gs[i]? = some (.own m) → gv[i]? = some (some (.ref a)) → H a ≠ none ∧ a ∉ C := fun {i m a} e1 e2 => by
    obtain ⟨b, ev, r⟩ := h.ent i _ _ e1 e2
    cases ev
    exact ⟨r.tr, h.nC i m a e1 e2⟩
  have new : ∀ {i : Nat} {m : MO} {a : Addr}, rs[i]? = some (.own m) → rv[i]? = some (some (.ref a)) → a ∈ C ∨ H a = none := fun {i m a} e1 e2 => q.oN i m a e1 e2
  refine ⟨by simp [hl, h.len], fun i sl v e1 e2 => ?_, fun i j m m' a e1 e2 e3 e4 => ?_, fun i m a e1 e2 => ?_, fun i m a e1 e2 => ?_, fun i w a e1 e2 => ?_, q.cel, q.cnd, q.cF, q.cH, q.fT, fun a o e na => ?_, fun a e => q.fF a (h.fF a e), fun a e => ?_, fun a e => ?_, fun i m a e1 e2 => ?_,
    fun n hn => (q.rho n (Nat.lt_of_lt_of_le hn h.nx)).trans (h.rho n hn), Nat.le_trans h.nx q.nx⟩
  · rcases split e1 e2 with ⟨_, e1, e2⟩ | ⟨_, e1, e2⟩
    · exact q.ent i sl v e1 e2
    · refine (h.ent _ sl v e1 e2).le le fun a o ev k z => ?_
      refine q.keep a o z ?_
      subst ev
      rcases k with ⟨m, rfl⟩ | ⟨w, rfl⟩
      · exact (old e1 e2).2
      · exact h.pC _ w a e1 e2
  · rcases split e1 e2 with ⟨i1, e1, e2⟩ | ⟨i1, e1, e2⟩
    · rcases split e3 e4 with ⟨j1, e3, e4⟩ | ⟨j1, e3, e4⟩
      · exact q.uniq i j m m' a e1 e2 e3 e4
      · have o1 := old e3 e4
        rcases new e1 e2 with z | z
        · exact (o1.2 z).elim
        · exact (o1.1 z).elim
    · rcases split e3 e4 with ⟨j1, e3, e4⟩ | ⟨j1, e3, e4⟩
      · have o1 := old e1 e2
        rcases new e3 e4 with z | z
        · exact (o1.2 z).elim
        · exact (o1.1 z).elim
      · have := h.uniq _ _ m m' a e1 e2 e3 e4
        omega
  · rcases split e1 e2 with ⟨_, e1, e2⟩ | ⟨_, e1, e2⟩
    · exact q.nF i m a e1 e2
    · intro z
      rcases q.fN a z with z | z | z
      · exact h.nF _ m a e1 e2 z
      · exact (old e1 e2).2 z
      · exact (old e1 e2).1 z
  · rcases split e1 e2 with ⟨_, e1, e2⟩ | ⟨_, e1, e2⟩
    · exact q.nC i m a e1 e2
    · intro z
      rcases q.cN a z with z | z
      · exact (old e1 e2).2 z
      · exact (old e1 e2).1 z
  · rcases split e1 e2 with ⟨_, e1, e2⟩ | ⟨_, e1, e2⟩
    · exact q.pC i w a e1 e2
    · intro z
      rcases q.cN a z with z | z
      · exact h.pC _ w a e1 e2 z
      · obtain ⟨x, ev, _, tr⟩ := h.ent _ _ _ e1 e2
        cases ev
        exact tr a rfl z
  · refine q.keep a o (h.keep a o e na) fun z => ?_
    rcases h.cN a z with z | z
    · exact na z
    · rw [z] at e; cases e
  · rcases q.fN a e with z | z | z
    · exact h.fN a z
    · exact .inr (h.cN a z)
    · exact .inr (h.fresh0 z).symm
  · rcases q.cN a e with z | z
    · exact h.cN a z
    · exact (h.fresh0 z).symm
  · rcases split e1 e2 with ⟨_, e1, e2⟩ | ⟨_, e1, e2⟩
    · rcases new e1 e2 with z | z
      · exact h.cN a z
      · exact (h.fresh0 z).symm
    · exact h.oN _ m a e1 e2
end
end VM

set_option Elab.async false
set_option linter.all false
/-! VM4: what operators and calls do, by value. -/
namespace VM
open PySem PySem.Spec PyProof.Rows L2

def Ext (H H' : Hp) : Prop := ∀ a o, H a = some o → H' a = some o
theorem Ext.refl (H : Hp) : Ext H H := fun _ _ h => h
theorem Ext.new {H : Hp} {p : Addr} {o : HO} (hp : H p = none) : Ext H (upd H p o) := fun a u e => by rw [upd_ne (ne_of_none e hp)]; exact e
theorem Ext.trans {H H' H'' : Hp} (a : Ext H H') (b : Ext H' H'') : Ext H H'' := fun x o e => b x o (a x o e)
abbrev G.at_ (g : G) (H' : Hp) : G := { g with H := H' }
theorem G.le_ext {g : G} {H' : Hp} (e : Ext g.H H') : g.le (g.at_ H') := ⟨rfl, Nat.le_refl _, fun _ _ => rfl, fun _ h => h, fun a o h _ => e a o h⟩
/-- a result as it comes -/
def ResAt (g : G) (res : Sl) (v : V) (H' : Hp) : Prop := match res with
  | .val w => Rep (g.at_ H') w v
  | .own m => ∃ a, v = .ref a ∧ g.H a = none ∧ OwnR (g.at_ H') m a
  | _ => False
def ResOk (g : G) (res : Sl) (Q : VK) : Prop := ∀ v H', Ext g.H H' → ResAt g res v H' → Q v H'
theorem ResOk.val {g : G} {w : W} {v : V} {Q : VK} (h : ResOk g (.val w) Q) (r : Rep g w v) : Q v g.H := h v g.H (Ext.refl _) r
theorem ResOk.tup {g : G} {xs : List W} {vs : List V} {Q : VK} (h : ResOk g (.val (.tup xs)) Q) (r : Reps g xs vs) : ∀ p, g.H p = none → Q (.ref p) (upd g.H p (.tup vs)) := fun p hp => by
  have e : Ext g.H (upd g.H p (.tup vs)) := Ext.new hp
  refine h _ _ e ?_
  show Rep _ (.tup xs) _
  unfold Rep
  exact ⟨p, vs, rfl, .inl (.inl upd_same), Reps.le (G.le_ext e) _ _ r⟩
theorem ResOk.lst {g : G} {xs : List W} {vs : List V} {Q : VK} (h : ResOk g (.own (.lst xs)) Q) (r : Reps g xs vs) : ∀ p, g.H p = none → Q (.ref p) (upd g.H p (.lst vs)) := fun p hp => by
  have e : Ext g.H (upd g.H p (.lst vs)) := Ext.new hp
  exact h _ _ e ⟨p, rfl, hp, vs, upd_same, Reps.le (G.le_ext e) _ _ r⟩
theorem ResOk.imp {g : G} {res : Sl} {Q Q' : VK} (h : ResOk g res Q) (i : ∀ v H, Q v H → Q' v H) : ResOk g res Q' := fun v H' e r => i v H' (h v H' e r)

/-! ### data -/
mutual
theorem Rep.dp {g : G} : ∀ (w : W) (v : V) (d : PyData), w.toD = some d → Rep g w v → Dp g.K g.H v d
  | .non, v, d, e, h => by unfold Rep at h; unfold W.toD at e; cases e; subst h; exact .non
  | .bl b, v, d, e, h => by unfold Rep at h; unfold W.toD at e; cases e; subst h; exact .bl b
  | .int i, v, d, e, h => by unfold Rep at h; unfold W.toD at e; cases e; subst h; exact .int i
  | .str x, v, d, e, h => by unfold Rep at h; unfold W.toD at e; cases e; obtain ⟨h, _⟩ := h; subst h; exact .str x
  | .tup xs, v, d, e, h => by
    unfold Rep at h
    unfold W.toD at e
    obtain ⟨a, vs, ev, q, r⟩ := h
    subst ev
    cases e2 : W.toDs xs with
    | none => rw [e2] at e; cases e
    | some ds =>
      rw [e2] at e
      cases e
      exact .tup q (Reps.dp xs vs ds e2 r)
  | .lst xs, v, d, e, h => by
    unfold Rep at h
    unfold W.toD at e
    obtain ⟨a, vs, ev, q, r⟩ := h
    subst ev
    cases e2 : W.toDs xs with
    | none => rw [e2] at e; cases e
    | some ds =>
      rw [e2] at e
      cases e
      exact .lst q.sq.sq (Reps.dp xs vs ds e2 r)
  | .dic _ _, _, _, e, _ => by unfold W.toD at e; cases e
  | .obj _ _ _, _, _, e, _ => by unfold W.toD at e; cases e
  | .exc _, _, _, e, _ => by unfold W.toD at e; cases e
  | .hnd _, _, _, e, _ => by unfold W.toD at e; cases e
theorem Reps.dp {g : G} : ∀ (ws : List W) (vs : List V) (ds : List PyData), W.toDs ws = some ds → Reps g ws vs → DpAll g.K g.H vs ds
  | [], vs, ds, e, h => by unfold Reps at h; unfold W.toDs at e; cases e; subst h; exact .nil
  | w :: ws, vs, ds, e, h => by
    unfold Reps at h
    obtain ⟨v, s, ev, a, b⟩ := h
    subst ev
    unfold W.toDs at e
    cases e1 : W.toD w with
    | none => rw [e1] at e; cases e
    | some d =>
      rw [e1] at e
      cases e2 : W.toDs ws with
      | none => rw [e2] at e; cases e
      | some es =>
        rw [e2] at e
        cases e
        exact .cons (Rep.dp w v d e1 a) (Reps.dp ws s es e2 b)
end
theorem RdW.dp {g : G} {w : W} {v : V} {d : PyData} (e : w.toD = some d) (h : RdW g w v) : Dp g.K g.H v d := by
  cases w with
  | lst xs =>
    obtain ⟨a, vs, ev, q, r⟩ := h
    subst ev
    unfold W.toD at e
    cases e2 : W.toDs xs with
    | none => rw [e2] at e; cases e
    | some ds =>
      rw [e2] at e
      cases e
      exact .lst q.sq (Reps.dp xs vs ds e2 r)
  | dic ks xs => unfold W.toD at e; cases e
  | _ => exact Rep.dp _ _ _ e h

/-! what is held can be laid -/
mutual
theorem Rep.lay {g : G} : ∀ (w : W) (v : V) (d : PyData), w.toD = some d → Rep g w v → d.canLay0 = true
  | .non, v, d, e, h => by unfold W.toD at e; cases e; rfl
  | .bl b, v, d, e, h => by unfold W.toD at e; cases e; rfl
  | .int i, v, d, e, h => by unfold W.toD at e; cases e; rfl
  | .str x, v, d, e, h => by unfold Rep at h; unfold W.toD at e; cases e; exact h.2.2
  | .tup xs, v, d, e, h => by
    unfold Rep at h
    obtain ⟨a, vs, _, _, r⟩ := h
    obtain ⟨ds, e2, rfl⟩ := Option.map_eq_some_iff.mp (show (W.toDs xs).map PyData.tuple = some d by unfold W.toD at e; exact e)
    show PyData.canLayAll0 ds = true
    exact Reps.lay xs vs ds e2 r
  | .lst xs, v, d, e, h => by
    unfold Rep at h
    obtain ⟨a, vs, _, _, r⟩ := h
    obtain ⟨ds, e2, rfl⟩ := Option.map_eq_some_iff.mp (show (W.toDs xs).map PyData.list = some d by unfold W.toD at e; exact e)
    show PyData.canLayAll0 ds = true
    exact Reps.lay xs vs ds e2 r
  | .dic _ _, _, _, e, _ => by unfold W.toD at e; cases e
  | .obj _ _ _, _, _, e, _ => by unfold W.toD at e; cases e
  | .exc _, _, _, e, _ => by unfold W.toD at e; cases e
  | .hnd _, _, _, e, _ => by unfold W.toD at e; cases e
theorem Reps.lay {g : G} : ∀ (ws : List W) (vs : List V) (ds : List PyData), W.toDs ws = some ds → Reps g ws vs → PyData.canLayAll0 ds = true
  | [], vs, ds, e, h => by unfold W.toDs at e; cases e; rfl
  | w :: ws, vs, ds, e, h => by
    unfold Reps at h
    obtain ⟨v, s, ev, a, b⟩ := h
    unfold W.toDs at e
    cases e1 : W.toD w with
    | none => rw [e1] at e; cases e
    | some d =>
      rw [e1] at e
      cases e2 : W.toDs ws with
      | none => rw [e2] at e; cases e
      | some es =>
        rw [e2] at e
        cases e
        show (PyData.canLay0 d && PyData.canLayAll0 es) = true
        rw [Rep.lay w v d e1 a, Reps.lay ws s es e2 b] <;> rfl
end
theorem RdW.lay {g : G} {w : W} {v : V} {d : PyData} (e : w.toD = some d) (h : RdW g w v) : d.canLay0 = true := by
  cases w with
  | lst xs =>
    obtain ⟨a, vs, ev, q, r⟩ := h
    obtain ⟨ds, e2, rfl⟩ := Option.map_eq_some_iff.mp (show (W.toDs xs).map PyData.list = some d by unfold W.toD at e; exact e)
    exact Reps.lay xs vs ds e2 r
  | dic ks xs => unfold W.toD at e; cases e
  | _ => exact Rep.lay (g := g) _ _ _ e h
theorem shape_of {d : PyData} (h : d.canLay0 = true) (z : d.depth ≤ 64) : SeqAt.shaped d = true := by
  unfold SeqAt.shaped
  rw [h, decide_eq_true z] <;> rfl

/-! ### two-place operators -/
def SimOp2 (K : PySem.W.Frag) (f : W → W → Option Sl) (r : R2) : Prop := ∀ (g : G) (x y : W) (vx vy : V) (res : Sl) (Q : VK), g.K = K → RdW g x vx → RdW g y vy → f x y = some res → ResOk g res Q → r vx vy g.H Q
theorem strLine_le : strLine ≤ sizeLine := by rw [sizeLine_eq]; decide
theorem seqLine_le : seqLine ≤ sizeLine := by rw [sizeLine_eq]; decide
section
variable {X : Cx}
/-- list + list, each that is read -/
def rCatL (K : PySem.W.Frag) : R2 := fun x y H Q => ∃ l b xs zs, x = .ref l ∧ y = .ref b ∧ SqX K H l xs ∧ SqX K H b zs ∧ xs.length + zs.length ≤ sizeLine ∧ ∀ p, H p = none → Q (.ref p) (upd H p (.lst (xs ++ zs)))
theorem op_catL : OpR X (binaryOp .Add) (rCatL X.K) := by
  rintro pl t τ K a b va vb P J ra rb ⟨p, q, us, ws, rfl, rfl, hp, hq, sz, done⟩
  obtain rfl : va = .ref p := ra
  obtain rfl : vb = .ref q := rb
  obtain ⟨as, n, r, ea, za⟩ := Inv.listX J hp
  obtain ⟨bs, m, r', eb, zb⟩ := Inv.listX J hq
  have la := r.length
  have lb := r'.length
  have fits : as.toArray.size + bs.toArray.size ≤ sizeLine := by simp only [List.size_toArray]; omega
  refine PySem.P.add_list ea eb ?_ fits
  rw [show as.toArray ++ bs.toArray = (as ++ bs).toArray from by simp]
  have z : (us ++ ws).length ≤ sizeLine := by rw [List.length_append]; exact sz
  exact ⟨.ref _, _, J.lnew (t' := t.toks) (r.append r') z, rfl, done _ J.fresh⟩
end
/-! the operators of whole numbers, texts, lists, tuples -/
theorem strOk_append {a b : Str} (ha : PyData.strOk a = true) (hb : PyData.strOk b = true) : PyData.strOk (a ++ b) = true := by
  have e : (a ++ b).cps = a.cps ++ b.cps := rfl
  unfold PyData.strOk at ha hb ⊢
  rw [e, Array.all_append, ha, hb] <;> rfl
theorem rdInt {g : G} {i : Int} {v : V} (h : RdW g (.int i) v) : v = .int i := by
  have h' : Rep g (.int i) v := h
  unfold Rep at h'; exact h'
theorem rdBl {g : G} {i : Bool} {v : V} (h : RdW g (.bl i) v) : v = .bl i := by
  have h' : Rep g (.bl i) v := h
  unfold Rep at h'; exact h'
theorem rdNon {g : G} {v : V} (h : RdW g .non v) : v = .non := by
  have h' : Rep g .non v := h
  unfold Rep at h'; exact h'
theorem rdStr {g : G} {x : Str} {v : V} (h : RdW g (.str x) v) : v = .str x ∧ x.length ≤ strLine ∧ PyData.strOk x = true := by
  have h' : Rep g (.str x) v := h
  unfold Rep at h'; exact h'
theorem rdTup {g : G} {xs : List W} {v : V} (h : RdW g (.tup xs) v) : ∃ a vs, v = .ref a ∧ SqT g.K g.H a vs ∧ Reps g xs vs := by
  have h' : Rep g (.tup xs) v := h
  unfold Rep at h'; exact h'
theorem repInt {g : G} (i : Int) : Rep g (.int i) (.int i) := by unfold Rep; rfl
theorem repBl {g : G} (i : Bool) : Rep g (.bl i) (.bl i) := by unfold Rep; rfl
theorem repNon {g : G} : Rep g .non .non := by unfold Rep; rfl
theorem repStr {g : G} {x : Str} (h : x.length ≤ strLine) (k : PyData.strOk x = true) : Rep g (.str x) (.str x) := by unfold Rep; exact ⟨rfl, h, k⟩
theorem repTup {g : G} {xs : List W} {vs : List V} {a : Addr} (h : SqT g.K g.H a vs) (r : Reps g xs vs) : Rep g (.tup xs) (.ref a) := by unfold Rep; exact ⟨a, vs, rfl, h, r⟩
def rAddA (K : PySem.W.Frag) : R2 := fun x y H Q => rI0 (fun i j => .int (i + j)) x y H Q ∨ ((∃ i j, x = .str i ∧ y = .str j ∧ i.length + j.length ≤ sizeLine ∧ Q (.str (i ++ j)) H) ∨ (rCatL K x y H Q ∨ rCatA K x y H Q))
theorem op_addA {X : Cx} : OpR X (binaryOp .Add) (rAddA X.K) := op_add.or (op_add_str.or (op_catL.or op_catA))
theorem sim_add {K : PySem.W.Frag} : SimOp2 K opAdd (rAddA K) := by
  intro g x y vx vy res Q hK rx ry e h
  subst hK
  unfold opAdd at e
  split at e <;> try cases e
  · rw [rdInt rx, rdInt ry]
    exact .inl ⟨_, _, rfl, rfl, h.val (repInt _)⟩
  · rename_i a b
    split at e
    · rename_i hz
      cases e
      obtain ⟨rfl, h1, k1⟩ := rdStr rx
      obtain ⟨rfl, h2, k2⟩ := rdStr ry
      exact .inr (.inl ⟨_, _, rfl, rfl, Nat.le_trans hz strLine_le, h.val (repStr (by rw [Str.length_append]; exact hz) (strOk_append k1 k2))⟩)
    · cases e
  · rename_i a b
    split at e
    · rename_i hz
      cases e
      obtain ⟨p, vs, rfl, q, r⟩ := rx
      obtain ⟨p2, vs2, rfl, q2, r2⟩ := ry
      exact .inr (.inr (.inl ⟨p, p2, vs, vs2, rfl, rfl, q, q2, by rw [← r.length, ← r2.length]; exact Nat.le_trans hz seqLine_le, h.lst (r.append r2)⟩))
    · cases e
  · rename_i a b
    split at e
    · rename_i hz
      cases e
      obtain ⟨p, vs, rfl, q, r⟩ := rdTup rx
      obtain ⟨p2, vs2, rfl, q2, r2⟩ := rdTup ry
      refine .inr (.inr (.inr ⟨p, p2, vs, vs2, rfl, rfl, q, q2, by rw [← r.length, ← r2.length]; exact Nat.le_trans hz seqLine_le, fun z => ?_, fun z1 z2 => ?_, fun z1 z2 => h.tup (r.append r2)⟩))
      · subst z
        have : a = [] := List.length_eq_zero_iff.mp r.length
        subst this
        exact h.val (repTup q2 r2)
      · subst z2
        have : b = [] := List.length_eq_zero_iff.mp r2.length
        subst this
        rw [List.append_nil] at h
        exact h.val (repTup q r)
    · cases e
theorem sim_sub {K : PySem.W.Frag} : SimOp2 K opSub (rI0 fun i j => .int (i - j)) := by
  intro g x y vx vy res Q hK rx ry e h
  unfold opSub at e
  split at e <;> try cases e
  rw [rdInt rx, rdInt ry]
  exact ⟨_, _, rfl, rfl, h.val (repInt _)⟩
def rMulS : R2 := fun x y H Q => ∃ (z : Str) (k : Int), x = .str z ∧ y = .int k ∧ -(2 ^ 62) < k ∧ k < 2 ^ 62 ∧ z.length * k.toNat ≤ strLine ∧ Q (.str (strRep z k.toNat)) H
theorem rep_zero (x : Str) : strRep x 0 = Str.empty := rfl
theorem rep_one (x : Str) : strRep x 1 = x := by
  obtain ⟨a⟩ := x
  show (⟨#[] ++ a⟩ : Str) = ⟨a⟩
  simp
theorem rep_none {x : Str} (h : x.length = 0) : ∀ n, strRep x n = x := by
  have e : x.cps = #[] := Array.eq_empty_of_size_eq_zero h
  intro n
  have f0 : ∀ n : Nat, (List.replicate n (#[] : Array Nat)).foldl (· ++ ·) #[] = #[] := fun n => by
    induction n with
    | zero => rfl
    | succ n ih => rw [List.replicate_succ, List.foldl_cons]; simpa using ih
  unfold strRep
  rw [e, f0, ← e]
theorem rep_cps (x : Str) : ∀ n, (strRep x n).cps.toList = (List.replicate n x.cps.toList).flatten := by
  have gen : ∀ (n : Nat) (a : Array Nat), ((List.replicate n x.cps).foldl (· ++ ·) a).toList = a.toList ++ (List.replicate n x.cps.toList).flatten := fun n => by
    induction n with
    | zero => intro a; simp
    | succ n ih => intro a; rw [List.replicate_succ, List.foldl_cons, ih, List.replicate_succ, List.flatten_cons, Array.toList_append, List.append_assoc]
  intro n
  unfold strRep
  rw [gen]
  simp
theorem rep_len (x : Str) (n : Nat) : (strRep x n).length = x.length * n := by
  show (strRep x n).cps.size = _
  rw [← Array.length_toList, rep_cps]
  show _ = x.cps.size * n
  rw [← Array.length_toList]
  generalize x.cps.toList = l
  induction n with
  | zero => simp
  | succ n ih => rw [List.replicate_succ, List.flatten_cons, List.length_append, ih, Nat.mul_succ, Nat.add_comm]
theorem rep_strOk {x : Str} (h : PyData.strOk x = true) (n : Nat) : PyData.strOk (strRep x n) = true := by
  unfold PyData.strOk at h ⊢
  rw [Array.all_eq_true_iff_forall_mem] at h ⊢
  intro c hc
  refine h c ?_
  have hc' : c ∈ (strRep x n).cps.toList := by simpa using hc
  rw [rep_cps] at hc'
  obtain ⟨l, hl, hm⟩ := List.mem_flatten.mp hc'
  rw [List.mem_replicate] at hl
  rw [hl.2] at hm
  simpa using hm
theorem op_mulS {X : Cx} : OpR X (binaryOp .Mult) rMulS := by
  rintro pl t τ K a b va vb P J ra rb ⟨z, k, rfl, rfl, h1, h2, h3, done⟩
  have h4 : (strRep z k.toNat).length ≤ strLine := by rw [rep_len]; exact h3
  obtain ⟨ta, rfl⟩ := ra
  obtain ⟨tb, rfl⟩ := rb
  have sl := strLine_le
  refine PySem.P.mul_str (by
    have n1 : ¬ k < -(2 ^ 63 : Int) := by omega
    have n2 : ¬ k ≥ 2 ^ 63 := by omega
    rw [decide_eq_false n1, decide_eq_false n2] <;> rfl) (fun q _ z0 => ?_) (fun _ _ => ?_) ?_
  · have hk : 0 < k := by omega
    have : (z.length : Int) * k ≤ 4194304 := by
      have e : ((z.length * k.toNat : Nat) : Int) = (z.length : Int) * k := by rw [Int.natCast_mul, Int.toNat_of_nonneg (by omega)]
      have h3' : z.length * k.toNat ≤ 4194304 := h3
      omega
    have z1 : (z.length : Int) ≤ (2 ^ 63 - 1) / k := by
      rw [Int.le_ediv_iff_mul_le hk]
      omega
    omega
  · have : ¬ z.length * k.toNat > sizeLine := by omega
    unfold Builtin.Str.tooLong
    exact decide_eq_false this
  · by_cases q : k < 1
    · rw [if_pos q]
      have e : k.toNat = 0 := by omega
      rw [e, rep_zero] at done
      exact ⟨by show 0 ≤ sizeLine; omega, .str Str.empty, K, J.tok _, ⟨_, rfl⟩, done⟩
    · rw [if_neg q]
      by_cases q2 : (k == 1 || z.length == 0) = true
      · rw [if_pos q2]
        have e : strRep z k.toNat = z := by
          rw [Bool.or_eq_true, beq_iff_eq, beq_iff_eq] at q2
          rcases q2 with e | e
          · rw [e]; exact rep_one z
          · exact rep_none e _
        rw [e] at done
        exact ⟨.str z, K, J, ⟨_, rfl⟩, done⟩
      · rw [if_neg q2]
        exact ⟨Nat.le_trans h4 sl, .str (strRep z k.toNat), K, J.tok _, ⟨_, rfl⟩, done⟩
/-! ### xs * k -/
def rRepX (K : PySem.W.Frag) : R2 := fun x y H Q => ∃ (l : Addr) (k : Int) (xs : List V), x = .ref l ∧ y = .int k ∧ SqX K H l xs ∧ (-(2 ^ 63) ≤ k ∧ k < 2 ^ 63) ∧ xs.length * k.toNat ≤ sizeLine ∧ ∀ p, H p = none → Q (.ref p) (upd H p (.lst (List.replicate k.toNat xs).flatten))
theorem rep_fold (its : List Value) (k : Int) : List.foldl (fun a b => a ++ b) #[] (List.replicate (if its.toArray.isEmpty = true then 0 else k.toNat) its.toArray) = (List.replicate k.toNat its).flatten.toArray := by
  have q : ∀ m : Nat, List.foldl (fun a b => a ++ b) #[] (List.replicate m its.toArray) = (List.replicate m its).flatten.toArray := fun m => by
    have z := foldl_rep its m []
    rwa [List.nil_append] at z
  rw [q]
  cases its with
  | nil => simp
  | cons a r => rw [if_neg (by simp)]
theorem op_repX {X : Cx} : OpR X (binaryOp .Mult) (rRepX X.K) := by
  rintro pl t τ K a b va vb P J ra rb ⟨l, k, xs, rfl, rfl, hq, ⟨h1, h2⟩, hz, done⟩
  obtain rfl : va = .ref l := ra
  obtain ⟨tk, rfl⟩ := rb
  obtain ⟨its, n, r, e, _⟩ := Inv.listX J hq
  have sz : its.toArray.size * k.toNat ≤ sizeLine := by rw [List.size_toArray, ← r.length]; exact hz
  have n1 : ¬ its.toArray.size * k.toNat > (2 ^ 63 - 1) / 8 := by
    have : (sizeLine : Nat) ≤ (2 ^ 63 - 1) / 8 := by decide
    omega
  have n2 : ¬ (!Builtin.List.listFitsIndex k) = true := by rw [fitsIndex_both h1 h2]; decide
  have n3 : ¬ Builtin.List.listTooLong (its.toArray.size * k.toNat) = true := by rw [notLongL sz]; decide
  have isL : Shared.TypeIs t (.ref l) "list" := ⟨_, e, rfl⟩
  have isI := typeIs_int t k tk
  refine wpAny_binaryOp_repeat_ref (by decide) isL (fun _ => typeIs_int _ k tk) noFill_list_mul F.fills_int_mul F.slot_int_rmul repeat_list F.slot_int_index.lookup ?_
  refine call_meets F.slot_int_rmul isI F.entry_int_rmul (F.args_int_rmul_2 _ _) (int___rmul___int_list k tk l its.toArray n) ⟨e, rfl, isL, ?_⟩
  refine call_meets F.slot_list_mul isL F.entry_list_mul (F.args_list_mul_2 _ _) (AutoListH.list___mul___list_int_3 l its.toArray n k tk n2 n1 n3) ⟨e, ?_⟩
  rw [rep_fold]
  have z : (List.replicate k.toNat xs).flatten.length ≤ sizeLine := by rw [PyProof.Rows.lm_len_rep_flat, Nat.mul_comm]; exact hz
  exact ⟨.ref _, _, J.lnew (t' := t.toks) (r.rep k.toNat) z, rfl, done _ J.fresh⟩
theorem Reps.repl {g : G} {ws : List W} {vs : List V} (r : Reps g ws vs) : ∀ n : Nat, Reps g (List.replicate n ws).flatten (List.replicate n vs).flatten
  | 0 => Reps.nil
  | n + 1 => by
    rw [List.replicate_succ, List.replicate_succ, List.flatten_cons, List.flatten_cons]
    exact r.append (Reps.repl r n)
def rMulA (K : PySem.W.Frag) : R2 := fun x y H Q => rI CMul (fun i j => .int (i * j)) x y H Q ∨ (rMulS x y H Q ∨ rRepX K x y H Q)
theorem sim_mul {K : PySem.W.Frag} : SimOp2 K opMul (rMulA K) := by
  intro g x y vx vy res Q hK rx ry e h
  subst hK
  unfold opMul at e
  split at e <;> try cases e
  · split at e
    · rename_i hc
      cases e
      obtain ⟨h1, h2, h3⟩ := hc
      obtain ⟨rfl, _, h5⟩ := rdStr rx
      rw [rdInt ry]
      exact .inr (.inl ⟨_, _, rfl, rfl, h1, h2, h3, h.val (repStr (by rw [rep_len]; exact h3) (rep_strOk h5 _))⟩)
    · cases e
  · split at e
    · rename_i xs k hc
      cases e
      obtain ⟨h1, h2, h3⟩ := hc
      obtain ⟨p, vs, rfl, q, r⟩ := rx
      rw [rdInt ry]
      exact .inr (.inr ⟨p, k, vs, rfl, rfl, q, ⟨by omega, by omega⟩, by rw [← r.length]; exact Nat.le_trans h3 seqLine_le, h.lst (r.repl _)⟩)
    · cases e
  · rename_i a b
    split at e
    · rename_i hc
      cases e
      rw [rdInt rx, rdInt ry]
      exact .inl ⟨_, _, rfl, rfl, hc, h.val (repInt _)⟩
    · cases e
theorem sim_fdiv {K : PySem.W.Frag} : SimOp2 K opFDiv (rI CDiv fun i j => .int (i / j)) := by
  intro g x y vx vy res Q hK rx ry e h
  unfold opFDiv at e
  split at e <;> try cases e
  rename_i a b
  split at e
  · rename_i hc
    cases e
    rw [rdInt rx, rdInt ry]
    exact ⟨_, _, rfl, rfl, hc, h.val (repInt _)⟩
  · cases e
theorem sim_mod {K : PySem.W.Frag} : SimOp2 K opMod (rI (fun _ j => 0 < j) fun i j => .int (i % j)) := by
  intro g x y vx vy res Q hK rx ry e h
  unfold opMod at e
  split at e <;> try cases e
  rename_i a b
  split at e
  · rename_i hc
    cases e
    rw [rdInt rx, rdInt ry]
    exact ⟨_, _, rfl, rfl, hc, h.val (repInt _)⟩
  · cases e
theorem sim_pow {K : PySem.W.Frag} : SimOp2 K opPow (rI CPow fun i j => .int (i ^ j.toNat)) := by
  intro g x y vx vy res Q hK rx ry e h
  unfold opPow at e
  split at e <;> try cases e
  rename_i a b
  split at e
  · rename_i hc
    cases e
    rw [rdInt rx, rdInt ry]
    exact ⟨_, _, rfl, rfl, hc, h.val (repInt _)⟩
  · cases e
/-- every operator has its rule -/
theorem bin_rule (K : PySem.W.Frag) (op : Operator) : ∃ r, (∀ X : Cx, X.K = K → OpR X (binaryOp op) r) ∧ SimOp2 K (opBin op) r := by
  have no : (∀ x y, opBin op x y = none) → ∃ r, (∀ X : Cx, X.K = K → OpR X (binaryOp op) r) ∧ SimOp2 K (opBin op) r := fun z => ⟨fun _ _ _ _ => False, fun _ _ _ _ _ _ _ _ _ _ _ _ _ _ h => h.elim, fun _ x y _ _ _ _ _ _ _ e => by rw [z] at e; cases e⟩
  cases op with
  | Add => exact ⟨_, fun X e => by subst e; exact op_addA, sim_add⟩
  | Sub => exact ⟨_, fun X e => op_sub, sim_sub⟩
  | Mult => exact ⟨_, fun X e => by subst e; exact op_mul.or (op_mulS.or op_repX), sim_mul⟩
  | FloorDiv => exact ⟨_, fun X e => op_fdiv, sim_fdiv⟩
  | Mod => exact ⟨_, fun X e => op_mod, sim_mod⟩
  | Pow => exact ⟨_, fun X e => op_pow, sim_pow⟩
  | _ => exact no fun x y => rfl

/-! ### comparisons -/
def SimCmp (K : PySem.W.Frag) (f : W → W → Option Bool) (r : R2) : Prop := ∀ (g : G) (x y : W) (vx vy : V) (b : Bool) (Q : VK), g.K = K → RdW g x vx → RdW g y vy → f x y = some b → Q (.bl b) g.H → r vx vy g.H Q
theorem eqv_some {a b : W} {c : Bool} (h : a.eqv b = some c) : ∃ d e, a.toD = some d ∧ b.toD = some e ∧ d.depth ≤ 64 ∧ e.depth ≤ 64 ∧ PyData.eqv d e = c := by
  unfold W.eqv at h
  split at h
  · rename_i d e h1 h2
    split at h
    · rename_i hs
      exact ⟨d, e, h1, h2, hs.1, hs.2, Option.some.inj h⟩
    · cases h
  · cases h
theorem sim_eq {K : PySem.W.Frag} : SimCmp K (opCmp .Eq) (rEqD K) := by
  intro g x y vx vy b Q hK rx ry e h
  subst hK
  obtain ⟨d, e', h1, h2, h3, h4, h5⟩ := eqv_some e
  exact ⟨d, e', rx.dp h1, ry.dp h2, shape_of (rx.lay h1) h3, shape_of (ry.lay h2) h4, by rw [h5]; exact h⟩
theorem sim_ne {K : PySem.W.Frag} : SimCmp K (opCmp .NotEq) (rNeD K) := by
  intro g x y vx vy b Q hK rx ry e h
  subst hK
  have e' : (x.eqv y).map (!·) = some b := e
  obtain ⟨c, hc, rfl⟩ := Option.map_eq_some_iff.mp e'
  obtain ⟨d, e', h1, h2, h3, h4, h5⟩ := eqv_some hc
  exact ⟨d, e', rx.dp h1, ry.dp h2, shape_of (rx.lay h1) h3, shape_of (ry.lay h2) h4, by rw [h5]; exact h⟩
def rOrdD (K : PySem.W.Frag) (g : PyData → PyData → Bool) : R2 := fun x y H Q => ∃ d e, Dp K H x d ∧ Dp K H y e ∧ PySem.W.alike d e = true ∧ d ≠ .none ∧ d.depth ≤ 60 ∧ Q (.bl (g d e)) H
theorem sim_ord {K : PySem.W.Frag} {f : Int → Int → Bool} {g : PyData → PyData → Bool} : SimCmp K (opOrd f g) (fun x y H Q => rI0 (fun i j => .bl (f i j)) x y H Q ∨ rOrdD K g x y H Q) := by
  intro g0 x y vx vy b Q hK rx ry e h
  subst hK
  unfold opOrd at e
  split at e
  · cases e
    rw [rdInt rx, rdInt ry]
    exact .inl ⟨_, _, rfl, rfl, h⟩
  · split at e
    · rename_i d d' h1 h2
      split at e
      · rename_i c
        cases e
        unfold datC at c
        rw [Bool.and_eq_true, Bool.and_eq_true] at c
        refine .inr ⟨d, d', rx.dp h1, ry.dp h2, c.1.1, ?_, of_decide_eq_true c.2, h⟩
        intro z
        subst z
        exact absurd c.1.2 (by decide)
      · cases e
    · cases e
section
variable {X : Cx}
theorem op_ordD {op : CmpOp} {g : PyData → PyData → Bool} (hu : X.A.units + 65 < cLine)
    (law : ∀ {s : Shared} {a b : Value} {d e : PyData} {as bs : List Addr} {E : Value → Shared → Prop} {Q : Value → Shared → Prop}, Reads s.heap a d as → Reads s.heap b e bs → PySem.W.alike d e = true → d ≠ .none → X.A.units + min d.depth e.depth < cLine → Q (.bool (g d e)) s →
      wpAny (model X.prog X.w) X.A (compareOp op a b) Q E s) : OpR X (compareOp op) (rOrdD X.K g) := by
  rintro pl t τ K a b va vb P J ra rb ⟨d, e, pd, pe, al, nn, dp, done⟩
  obtain ⟨_, ya⟩ := Dp.reads J d a va pd ra
  obtain ⟨_, yb⟩ := Dp.reads J e b vb pe rb
  exact law ya yb al nn (by omega) ⟨.bl _, K, J, rfl, done⟩
end
theorem rd_isNon {g : G} {x : W} {vx : V} (rx : RdW g x vx) : decide (vx = .non) = x.isNon := by
  cases x with
  | non => rw [rdNon rx] <;> rfl
  | bl b => rw [rdBl rx] <;> rfl
  | int b => rw [rdInt rx] <;> rfl
  | str b => rw [(rdStr rx).1] <;> rfl
  | tup xs => obtain ⟨a, vs, rfl, _⟩ := rdTup rx; rfl
  | lst xs => obtain ⟨a, vs, rfl, _⟩ := rx; rfl
  | dic ks xs => obtain ⟨a, rfl, _⟩ := rx; rfl
  | obj C ks xs => have rx' : Rep g (.obj C ks xs) vx := rx; unfold Rep at rx'; obtain ⟨a, _, _, rfl, _⟩ := rx'; rfl
  | exc C => have rx' : Rep g (.exc C) vx := rx; unfold Rep at rx'; obtain ⟨a, rfl, _⟩ := rx'; rfl
  | hnd n => have rx' : Rep g (.hnd n) vx := rx; unfold Rep at rx'; rw [rx'.2] <;> rfl
theorem sim_isN {K : PySem.W.Frag} : SimCmp K (opIs true) (fun x y H Q => y = .non ∧ Q (.bl (decide (x = .non))) H) := by
  intro g x y vx vy b Q hK rx ry e h
  cases y <;> unfold opIs at e <;> cases e
  refine ⟨rdNon ry, ?_⟩
  rw [rd_isNon rx]
  cases q : x.isNon <;> rw [q] at h <;> exact h
theorem sim_notN {K : PySem.W.Frag} : SimCmp K (opIs false) (fun x y H Q => y = .non ∧ Q (.bl (!decide (x = .non))) H) := by
  intro g x y vx vy b Q hK rx ry e h
  cases y <;> unfold opIs at e <;> cases e
  refine ⟨rdNon ry, ?_⟩
  rw [rd_isNon rx]
  cases q : x.isNon <;> rw [q] at h <;> exact h
/-! in -/
theorem Dp.list_of {K : PySem.W.Frag} {H : Hp} {a : Addr} {xs : List V} {ds : List PyData} (h : SqL K H a xs) (r : DpAll K H xs ds) : Dp K H (.ref a) (.list ds) := .lst h r
section
variable {X : Cx}
def rInT (K : PySem.W.Frag) : R2 := fun x y H Q => ∃ d ds, Dp K H x d ∧ Dp K H y (.tuple ds) ∧ SeqAt.shaped d = true ∧ SeqAt.shaped (.tuple ds) = true ∧ Q (.bl (ds.any fun z => PyData.eqv z d)) H
def rNotInT (K : PySem.W.Frag) : R2 := fun x y H Q => ∃ d ds, Dp K H x d ∧ Dp K H y (.tuple ds) ∧ SeqAt.shaped d = true ∧ SeqAt.shaped (.tuple ds) = true ∧ Q (.bl (!ds.any fun z => PyData.eqv z d)) H
theorem op_inT (hu : X.A.units + 65 < cLine) : OpR X (compareOp .In) (rInT X.K) := by
  rintro pl t τ K a b va vb P J ra rb ⟨d, es, pd, pe, sd, se, done⟩
  obtain ⟨_, ya⟩ := Dp.reads J d a va pd ra
  obtain ⟨_, yb⟩ := Dp.reads J (.tuple es) b vb pe rb
  exact SeqAt.in_tuple_reads yb ya (SeqAt.canLay_of_shaped se) (SeqAt.canLay_of_shaped sd) (room_in_shaped sd hu) ⟨.bl _, K, J, rfl, done⟩
theorem op_notInT (hu : X.A.units + 65 < cLine) : OpR X (compareOp .NotIn) (rNotInT X.K) := by
  rintro pl t τ K a b va vb P J ra rb ⟨d, es, pd, pe, sd, se, done⟩
  obtain ⟨_, ya⟩ := Dp.reads J d a va pd ra
  obtain ⟨_, yb⟩ := Dp.reads J (.tuple es) b vb pe rb
  exact SeqAt.notIn_tuple_reads yb ya (SeqAt.canLay_of_shaped se) (SeqAt.canLay_of_shaped sd) (room_in_shaped sd hu) ⟨.bl _, K, J, rfl, done⟩
end
theorem inSeq_some {mk : List PyData → PyData} {x : W} {ys : List W} {b : Bool} (h : inSeq mk x ys = some b) : ∃ d ds, x.toD = some d ∧ W.toDs ys = some ds ∧ d.depth ≤ 64 ∧ (mk ds).depth ≤ 64 ∧ (ds.any fun z => PyData.eqv z d) = b := by
  unfold inSeq at h
  split at h
  · rename_i d ds h1 h2
    split at h
    · rename_i hs
      exact ⟨d, ds, h1, h2, hs.1, hs.2, Option.some.inj h⟩
    · cases h
  · cases h
def rInA (K : PySem.W.Frag) : R2 := fun x y H Q => rInD K x y H Q ∨ (rInT K x y H Q ∨ ∃ i j, x = .str i ∧ y = .str j ∧ Q (.bl (!(Builtin.Str.occurrences j i 0 j.length 1).isEmpty)) H)
def rNotInA (K : PySem.W.Frag) : R2 := fun x y H Q => rNotInD K x y H Q ∨ (rNotInT K x y H Q ∨ ∃ i j, x = .str i ∧ y = .str j ∧ Q (.bl (!(!(Builtin.Str.occurrences j i 0 j.length 1).isEmpty))) H)
theorem sim_in {K : PySem.W.Frag} : SimCmp K (opCmp .In) (rInA K) := by
  intro g x y vx vy b Q hK rx ry e h
  subst hK
  have e : x.isIn y = some b := e
  cases y with
  | lst ys =>
    obtain ⟨d, ds, h1, h2, h3, h4, h5⟩ := inSeq_some (show inSeq .list x ys = some b from e)
    obtain ⟨a, vs, rfl, q, r⟩ := ry
    exact .inl ⟨d, ds, rx.dp h1, .lst q.sq (Reps.dp _ _ _ h2 r), shape_of (rx.lay h1) h3, shape_of (show PyData.canLayAll0 ds = true from Reps.lay _ _ _ h2 r) h4, by rw [h5]; exact h⟩
  | tup ys =>
    obtain ⟨d, ds, h1, h2, h3, h4, h5⟩ := inSeq_some (show inSeq .tuple x ys = some b from e)
    obtain ⟨a, vs, rfl, q, r⟩ := rdTup ry
    exact .inr (.inl ⟨d, ds, rx.dp h1, .tup q (Reps.dp _ _ _ h2 r), shape_of (rx.lay h1) h3, shape_of (show PyData.canLayAll0 ds = true from Reps.lay _ _ _ h2 r) h4, by rw [h5]; exact h⟩)
  | str z =>
    cases x with
    | str w =>
      have e' : some (!(Builtin.Str.occurrences z w 0 z.length 1).isEmpty) = some b := e
      cases e'
      rw [(rdStr rx).1, (rdStr ry).1]
      exact .inr (.inr ⟨_, _, rfl, rfl, h⟩)
    | _ => cases e
  | _ => cases e
theorem sim_notIn {K : PySem.W.Frag} : SimCmp K (opCmp .NotIn) (rNotInA K) := by
  intro g x y vx vy b Q hK rx ry e h
  subst hK
  have e : (x.isIn y).map (!·) = some b := e
  obtain ⟨b, e2, rfl⟩ := Option.map_eq_some_iff.mp e
  clear e
  cases y with
  | lst ys =>
    obtain ⟨d, ds, h1, h2, h3, h4, h5⟩ := inSeq_some (show inSeq .list x ys = some b from e2)
    obtain ⟨a, vs, rfl, q, r⟩ := ry
    exact .inl ⟨d, ds, rx.dp h1, .lst q.sq (Reps.dp _ _ _ h2 r), shape_of (rx.lay h1) h3, shape_of (show PyData.canLayAll0 ds = true from Reps.lay _ _ _ h2 r) h4, by rw [h5]; exact h⟩
  | tup ys =>
    obtain ⟨d, ds, h1, h2, h3, h4, h5⟩ := inSeq_some (show inSeq .tuple x ys = some b from e2)
    obtain ⟨a, vs, rfl, q, r⟩ := rdTup ry
    exact .inr (.inl ⟨d, ds, rx.dp h1, .tup q (Reps.dp _ _ _ h2 r), shape_of (rx.lay h1) h3, shape_of (show PyData.canLayAll0 ds = true from Reps.lay _ _ _ h2 r) h4, by rw [h5]; exact h⟩)
  | str z =>
    cases x with
    | str w =>
      have e' : some (!(Builtin.Str.occurrences z w 0 z.length 1).isEmpty) = some b := e2
      cases e'
      rw [(rdStr rx).1, (rdStr ry).1]
      exact .inr (.inr ⟨_, _, rfl, rfl, h⟩)
    | _ => cases e2
  | _ => cases e2
theorem cmp_rule (K : PySem.W.Frag) (op : CmpOp) : ∃ r, (∀ X : Cx, X.K = K → X.A.units + 65 < cLine → OpR X (compareOp op) r) ∧ SimCmp K (opCmp op) r := by
  cases op with
  | Eq => exact ⟨_, fun X e hu => by subst e; exact op_eqD (by omega), sim_eq⟩
  | NotEq => exact ⟨_, fun X e hu => by subst e; exact op_neD (by omega), sim_ne⟩
  | Lt => exact ⟨_, fun X e hu => by subst e; exact op_lt.or (op_ordD hu PySem.W.lt_data), sim_ord⟩
  | LtE => exact ⟨_, fun X e hu => by subst e; exact op_le.or (op_ordD hu PySem.W.le_data), sim_ord⟩
  | Gt => exact ⟨_, fun X e hu => by subst e; exact op_gt.or (op_ordD hu PySem.W.gt_data), sim_ord⟩
  | GtE => exact ⟨_, fun X e hu => by subst e; exact op_ge.or (op_ordD hu PySem.W.ge_data), sim_ord⟩
  | In => exact ⟨_, fun X e hu => by subst e; exact (op_inD hu).or ((op_inT hu).or op_in_str), sim_in⟩
  | NotIn => exact ⟨_, fun X e hu => by subst e; exact (op_notInD hu).or ((op_notInT hu).or op_notin_str), sim_notIn⟩
  | Is => exact ⟨_, fun X e hu => op_isN, sim_isN⟩
  | IsNot => exact ⟨_, fun X e hu => op_notN, sim_notN⟩
end VM

set_option Elab.async false
set_option linter.all false
/-! VM5: expressions. -/
namespace VM
open PySem PySem.Spec L2
open PyProof.Rows hiding St

/-- a wish about exceptions of own classes -/
abbrev XW := Str → Tau → Store → Prop
/-- .. what it promises to the context's wish -/
def Imp (B : Base) (E : XW) (Wx : WX) : Prop := ∀ Cn τ S F ρ C σ H, StR B F ρ τ σ S H C → E Cn τ S → Wx (.ref (He.ga B.K Cn)) none σ H
/-- what a def of the text does -/
inductive RF where
  | ok (r : Sl) (S : Store) | ex (C : Str) (S : Store) | no
abbrev CF := List W → Store → RF
/-- a class by its name: a built-in one, the text's own -/
inductive TyN where
  | bt (n : String) | own (C : Str)
  deriving DecidableEq
def TyN.v (K : PySem.W.Frag) : TyN → Value
  | .bt n => .type n
  | .own C => .ref (He.ga K C)
def TyN.c (K : PySem.W.Frag) : TyN → V
  | .bt n => .ty n
  | .own C => .ref (He.ga K C)
/-- what is known of a context ahead of its run: the written part, the slots' names, the scope, room, the defs and constants that it calls by name -/
structure DC where
  K : PySem.W.Frag
  P : Program
  w : World
  mg : Str → Option Value
  base : Heap
  N : List Str
  sc : Scope
  k : Nat
  fnn : Str → Bool
  calm : Bool
  top : Bool
  fns : Str → Option (CF × Nat)
  gls : Str → Option W
  free : List Str
  ecs : List Str
  cvs : List (Str × TyN)
  isT : List (TyN × TyN × Bool)
  exm : List (Str × Str × Bool)
  bx : List Str
  mth : Str → Str → Option (CF × Nat)
  fld : Str → Str → Bool
  mkr : Str → Option (CF × Nat)
/-- what is wanted of an outcome -/
def RP {α : Type} (r : R α) (P : α → Tau → Store → Prop) (E : XW) : Prop := match r with
  | .ok a τ S => P a τ S
  | .ex C τ S => E C τ S
  | .no => False
theorem RP.bind {α β : Type} {r : R α} {f : α → Tau → Store → R β} {P : β → Tau → Store → Prop} {E : XW} (h : RP (r.bind f) P E) : RP r (fun a τ S => RP (f a τ S) P E) E := by
  cases r with
  | ok a τ S => exact h
  | ex C τ S => exact h
  | no => exact h
theorem RP.mono {α : Type} {r : R α} {P P' : α → Tau → Store → Prop} {E : XW} (h : RP r P E) (i : ∀ a τ S, P a τ S → P' a τ S) : RP r P' E := by
  cases r with
  | ok a τ S => exact i a τ S h
  | ex C τ S => exact h
  | no => exact h
/-- from an option -/
def R.of {α : Type} (o : Option α) (τ : Tau) (S : Store) : R α := match o with
  | some a => .ok a τ S
  | none => .no
theorem RP.of {α : Type} {o : Option α} {τ : Tau} {S : Store} {P : α → Tau → Store → Prop} {E : XW} (h : RP (R.of o τ S) P E) : ∃ a, o = some a ∧ P a τ S := by
  cases o with
  | none => exact h.elim
  | some a => exact ⟨a, rfl, h⟩
/-- what is wanted behind an expression: entries ahead (stk), slots behind -/
def Post (B : Base) (stk : List Sl) (vstk : List (Option V)) (σ : St) (Q : VK) (r : Sl) (τ' : Tau) (S' : Store) : Prop :=
  ∀ v H' F' ρ' C', StR B F' ρ' (r :: (stk ++ τ')) (some v :: (vstk ++ σ)) S' H' C' → Q v H'
def Sim (B : Base) (E : XW) (t0 : TE) (d : DE) : Prop := ∀ F ρ stk vstk τ σ S H C (Q : VK), stk.length = vstk.length → StR B F ρ (stk ++ τ) (vstk ++ σ) S H C →
  RP (d τ S) (Post B stk vstk σ Q) E → t0 σ H Q
def PostA (B : Base) (stk : List Sl) (vstk : List (Option V)) (σ : St) (Q : List V → Hp → Prop) (rs : List Sl) (τ' : Tau) (S' : Store) : Prop :=
  ∀ vs H' F' ρ' C', rs.length = vs.length → StR B F' ρ' (rs.reverse ++ (stk ++ τ')) (vs.reverse.map some ++ (vstk ++ σ)) S' H' C' → Q vs H'
def SimA (B : Base) (E : XW) (t0 : TA) (d : DA) : Prop := ∀ F ρ stk vstk τ σ S H C (Q : List V → Hp → Prop), stk.length = vstk.length → StR B F ρ (stk ++ τ) (vstk ++ σ) S H C →
  RP (d τ S) (PostA B stk vstk σ Q) E → t0 σ H Q
def PostT (B : Base) (stk : List Sl) (vstk : List (Option V)) (σ : St) (Q : Bool → Hp → Prop) (b : Bool) (τ' : Tau) (S' : Store) : Prop :=
  ∀ H' F' ρ' C', StR B F' ρ' (stk ++ τ') (vstk ++ σ) S' H' C' → Q b H'
def SimT (B : Base) (E : XW) (t0 : TT) (d : DT) : Prop := ∀ F ρ stk vstk τ σ S H C (Q : Bool → Hp → Prop), stk.length = vstk.length → StR B F ρ (stk ++ τ) (vstk ++ σ) S H C →
  RP (d τ S) (PostT B stk vstk σ Q) E → t0 σ H Q
/-- the promise of a def of the text: f on n arguments -/
def spW (K : PySem.W.Frag) (f : CF) (n : Nat) : Sp := fun vs H Q E => ∃ (ρ : Nat → Addr) (F : Addr → Prop) (S : Store) (ws : List W) (C : List Addr), ws.length = n ∧ Reps ⟨K, ρ, S.next, F, H⟩ ws vs ∧ CellsR ⟨K, ρ, S.next, F, H⟩ S.cells C ∧ C.Nodup ∧
  (∀ a ∈ C, ¬ F a) ∧ (∀ a ∈ C, H a ≠ none) ∧ (∀ a, F a → H a ≠ none) ∧
  (match f ws S with
    | .ok r S' => ∀ v H' F' ρ' C', StR ⟨K, H, F, ρ, S.next, C⟩ F' ρ' [r] [some v] S' H' C' → Q v H'
    | .ex Cn S' => ∀ H' F' ρ' C', StR ⟨K, H, F, ρ, S.next, C⟩ F' ρ' [] [] S' H' C' → E (.ref (He.ga K Cn)) none H'
    | .no => False)
theorem spW_len {K : PySem.W.Frag} {f : CF} {n : Nat} {vs : List V} {H : Hp} {Q : VK} {E : XK} (h : spW K f n vs H Q E) : vs.length = n := by
  obtain ⟨ρ, F, S, ws, C, e, r, _⟩ := h
  rw [← e, r.length]
/-- a def by its name -/
structure FOk (D : DC) (x : Str) (f : CF) (n : Nat) : Prop where
  ex : ∃ fa fd ps, D.mg x = some (.ref fa) ∧ PySem.W.keepIn D.K (.ref fa) = true ∧ Binds D.K fd ps [] ∧ FnOk D.P D.w D.K D.mg D.base (L2.CX D.P D.w) D.k fa fd ps (spW D.K f n)
  len : ∀ ws S, f ws S ≠ .no → ws.length = n
/-- what the __init__ of things that are values promises: it leaves the new thing with such attributes -/
def spI (K : PySem.W.Frag) (Cl : Str) (g : CF) (n : Nat) : Sp := fun vs Hh Q _ => ∃ (x dx : Addr) (us : List V) (Hm : Hp) (ρ : Nat → Addr) (F : Addr → Prop) (S : Store) (ws : List W) (C : List Addr),
  vs = .ref x :: us ∧ Hm x = none ∧ Hh = upd Hm x (.ins (He.ga K Cl) dx []) ∧ ws.length = n ∧ Reps ⟨K, ρ, S.next, F, Hm⟩ ws us ∧ CellsR ⟨K, ρ, S.next, F, Hm⟩ S.cells C ∧ C.Nodup ∧ (∀ a ∈ C, ¬ F a) ∧ (∀ a ∈ C, Hm a ≠ none) ∧ (∀ a, F a → Hm a ≠ none) ∧
  (match g ws S with
    | .ok r S' => ∃ ks xs, r = .val (.obj Cl ks xs) ∧ ∀ H' F' ρ' C' vs', StR ⟨K, Hm, F, ρ, S.next, C⟩ F' ρ' [] [] S' H' C' → H' x = some (.ins (He.ga K Cl) dx (ks.zip vs')) → ks.length = vs'.length → Reps ⟨K, ρ', S'.next, F', H'⟩ xs vs' → ¬ F' x → x ∉ C' → Q .non H'
    | _ => False)
/-- a class whose things are values, by its name -/
structure KOk (D : DC) (x : Str) (f : CF) (n : Nat) : Prop where
  lev : 2 ≤ D.k
  ex : ∃ fa fd ps, D.mg x = some (.ref (He.ga D.K x)) ∧ L2.Mk D.K (He.ga D.K x) fa ∧ Binds D.K fd ps [] ∧ FnOk D.P D.w D.K D.mg D.base (L2.CX D.P D.w) 1 fa fd ps (spI D.K x f n)
  len : ∀ ws S, f ws S ≠ .no → ws.length = n
  shape : ∀ ws S, f ws S = .no ∨ ∃ ks xs S', f ws S = .ok (.val (.obj x ks xs)) S'
/-- a method of a class -/
structure MOk (D : DC) (Cl m : Str) (f : CF) (n : Nat) : Prop where
  cls : L2.Cls D.K (He.ga D.K Cl)
  ex : ∃ fa fd ps, L2.Meth D.K (He.ga D.K Cl) m fa ∧ Binds D.K fd ps [] ∧ FnOk D.P D.w D.K D.mg D.base (L2.CX D.P D.w) D.k fa fd ps (spW D.K f n)
  len : ∀ ws S, f ws S ≠ .no → ws.length = n
/-- an attribute that things of a class have, and none of its classes -/
structure AtOk (D : DC) (Cl f : Str) : Prop where
  cls : L2.Cls D.K (He.ga D.K Cl)
  no : L2.NoAttr D.K (He.ga D.K Cl) f
/-- a constant of the module by its name -/
def GOk (D : DC) (x : Str) (w : W) : Prop := ∃ v u, D.mg x = some u ∧ RelV v u ∧ ∀ g : G, g.K = D.K → Rep g w v
/-- a context of these data, whose wish about exceptions is Wx -/
structure CxOk (D : DC) (Wx : WX) (X : Cx) : Prop where
  K : X.K = D.K
  prog : X.prog = D.P
  w : X.w = D.w
  mg : X.mg = D.mg
  base : X.base = D.base
  N : X.N = D.N
  sc : X.env.scope = D.sc
  kind : X.env.scope.kind = .function
  un : X.A.units + 65 < cLine
  room : D.calm = true → Room D.k X.A
  hot : D.calm = true → X.calm = true
  fn : ∀ x, D.fnn x = true → X.fn x = true
  tk : Takes X Wx
  pass : PassesOwn (model X.prog X.w) X.A X.env X.xe
  stk : D.top = true → X.stack = X.env :: X.outer ∧ X.env.frame = some X.env.locals ∧ X.ex = []
/-- an exception class of the text -/
structure EcOk (D : DC) (C : Str) : Prop where
  mg : D.mg C = some (.ref (He.ga D.K C))
  exc : PySem.W.excIn D.K (He.ga D.K C) He.veBase "ValueError.__new__" = true
  keep : PySem.W.keepIn D.K (.ref (He.ga D.K C)) = true
  sub : PySem.W.subIn D.K (.ref (He.ga D.K C)) (.type "BaseException") = some true
  ty : PySem.W.typeIn D.K (.ref (He.ga D.K C)) = some (.type "type")
  is : ExcC D.K (He.ga D.K C)
/-- a class as the text names it -/
def CvOk (D : DC) (x : Str) : TyN → Prop
  | .bt n => D.mg x = none ∧ bootBuiltins x = some (.type n) ∧ x ≠ "__name__"
  | .own C => D.mg x = some (.ref (He.ga D.K C))
/-- what is known of the data themselves -/
structure DOk (D : DC) : Prop where
  nd : D.N.Nodup
  fns : ∀ x f n, D.fns x = some (f, n) → FOk D x f n
  gls : ∀ x w, D.gls x = some w → GOk D x w
  free : ∀ x ∈ D.free, D.mg x = none
  ecs : ∀ C ∈ D.ecs, EcOk D C
  cvs : ∀ x t, (x, t) ∈ D.cvs → CvOk D x t
  isT : ∀ t c b, (t, c, b) ∈ D.isT → PySem.W.kitOne D.K (t.v D.K) (c.v D.K) = some b
  exm : ∀ C T b, (C, T, b) ∈ D.exm → PySem.W.exmOne D.K (.ref (He.ga D.K C)) (.ref (He.ga D.K T)) = some b
  mth : ∀ C m f n, D.mth C m = some (f, n) → MOk D C m f n
  fld : ∀ C f, D.fld C f = true → AtOk D C f
  mkr : ∀ x f n, D.mkr x = some (f, n) → KOk D x f n
def VE (D : DC) (Wx : WX) (e : Expr) (d : DE) : Prop := ∃ t0, (∀ X, CxOk D Wx X → PE X e t0) ∧ ∀ B E, B.K = D.K → Imp B E Wx → Sim B E t0 d
def VA (D : DC) (Wx : WX) (es : List Expr) (d : DA) : Prop := ∃ t0, (∀ X, CxOk D Wx X → PA X es t0) ∧ ∀ B E, B.K = D.K → Imp B E Wx → SimA B E t0 d
def VT (D : DC) (Wx : WX) (e : Expr) (d : DT) : Prop := ∃ t0, (∀ X, CxOk D Wx X → PT X e t0) ∧ ∀ B E, B.K = D.K → Imp B E Wx → SimT B E t0 d
/-- no denotation: nothing to show -/
def dNo : DE := fun _ _ => .no
theorem ve_no {D : DC} {Wx : WX} {e : Expr} : VE D Wx e dNo := ⟨fun _ _ _ => False, fun _ _ => ⟨fun _ _ _ _ _ _ h => h.elim⟩, fun _ _ _ _ _ _ _ _ _ _ _ _ _ _ _ _ h => h⟩

/-! ### names and constants -/
def dConst (w : W) : DE := fun τ S => .ok (.val w) τ S
def dVar (i : Nat) : DE := fun τ S => match τ[i]? with
  | some (.val w) => .ok (.val w) τ S
  | some (.own m) => .ok (.val m.fz) (τ.set i (.val m.fz)) S
  | _ => .no
/-- a name, read where it stands -/
def dPeek (i : Nat) : DE := fun τ S => match τ[i]? with
  | some (.val w) => .ok (.val w) τ S
  | some (.own m) => .ok (.pk m.fz) τ S
  | _ => .no
section
variable {B : Base} {E : XW} {D : DC} {Wx : WX}
theorem get_slot {α : Type} {xs ys : List α} {i : Nat} : (xs ++ ys)[xs.length + i]? = ys[i]? := by
  rw [List.getElem?_append_right (Nat.le_add_right _ _)]
  congr 1
  omega
theorem set_slot {α : Type} {xs ys : List α} {i : Nat} {z : α} : (xs ++ ys).set (xs.length + i) z = xs ++ ys.set i z := by
  rw [List.set_append_right _ _ (Nat.le_add_right _ _)]
  congr 2
  omega
theorem slot_val {F : Addr → Prop} {ρ : Nat → Addr} {stk : List Sl} {vstk : List (Option V)} {τ : Tau} {σ : St} {S : Store} {H : Hp} {C : List Addr} {i : Nat} {sl : Sl} (hl : stk.length = vstk.length)
    (h : StR B F ρ (stk ++ τ) (vstk ++ σ) S H C) (e : τ[i]? = some sl) : ∃ v, σ[i]? = some v ∧ ER (gOf B F ρ S H) sl v := by
  have hτ : i < τ.length := (List.getElem?_eq_some_iff.mp e).1
  have hlen := h.len
  rw [List.length_append, List.length_append] at hlen
  have hσ : i < σ.length := by omega
  have e2 : σ[i]? = some σ[i] := List.getElem?_eq_getElem hσ
  refine ⟨_, e2, h.ent (stk.length + i) sl σ[i] (by rw [get_slot]; exact e) ?_⟩
  rw [hl, get_slot]
  exact e2
theorem ve_c {e : Expr} {w : W} {v : V} (p : ∀ X, CxOk D Wx X → PE X e (tC v)) (r : ∀ g : G, g.K = D.K → Rep g w v) : VE D Wx e (dConst w) :=
  ⟨_, p, fun B E hK i F ρ stk vstk τ σ S H C Q hl h k => k v H F ρ C (h.push (r _ hK))⟩
theorem sim_var {i : Nat} : Sim B E (tVar i) (dVar i) := by
  intro F ρ stk vstk τ σ S H C Q hl h k
  unfold dVar at k
  cases e : τ[i]? with
  | none => rw [e] at k; exact k.elim
  | some sl =>
    rw [e] at k
    obtain ⟨v, e2, r⟩ := slot_val hl h e
    cases sl with
    | no => exact k.elim
    | pk w => exact k.elim
    | val w =>
      obtain ⟨x, rfl, r⟩ := r
      exact ⟨x, e2, k x H F ρ C (h.push r)⟩
    | own m =>
      obtain ⟨a, rfl, r⟩ := r
      refine ⟨_, e2, ?_⟩
      have e3 : (stk ++ τ)[stk.length + i]? = some (.own m) := by rw [get_slot]; exact e
      have e4 : (vstk ++ σ)[stk.length + i]? = some (some (.ref a)) := by rw [hl, get_slot]; exact e2
      obtain ⟨h2, r2⟩ := h.freezeAt e3 e4
      rw [set_slot] at h2
      exact k _ H _ ρ C (h2.push r2)
theorem sim_peek {i : Nat} : Sim B E (tVar i) (dPeek i) := by
  intro F ρ stk vstk τ σ S H C Q hl h k
  unfold dPeek at k
  cases e : τ[i]? with
  | none => rw [e] at k; exact k.elim
  | some sl =>
    rw [e] at k
    obtain ⟨v, e2, r⟩ := slot_val hl h e
    cases sl with
    | no => exact k.elim
    | pk w => exact k.elim
    | val w =>
      obtain ⟨x, rfl, r⟩ := r
      exact ⟨x, e2, k x H F ρ C (h.push r)⟩
    | own m =>
      obtain ⟨a, rfl, r⟩ := r
      refine ⟨_, e2, k _ H F ρ C (h.peek r.rd (fun b hb => by cases hb; exact r.tr) fun b hb => ?_)⟩
      cases hb
      exact h.nC (stk.length + i) m a (by rw [get_slot]; exact e) (by rw [hl, get_slot]; exact e2)

/-! ### one after another -/
/-- the end of an operation: its result on the heap as it came -/
theorem StR.result {F : Addr → Prop} {ρ : Nat → Addr} {gs : List Sl} {gv : List (Option V)} {S : Store} {H H' : Hp} {C : List Addr} {res : Sl} {v : V} (h : StR B F ρ gs gv S H C) (e : Ext H H') (r : ResAt (gOf B F ρ S H) res v H') :
    StR B F ρ (res :: gs) (some v :: gv) S H' C := by
  have h' := h.heap e
  cases res with
  | no => exact r.elim
  | pk w => exact r.elim
  | val w => exact h'.push r
  | own m =>
    obtain ⟨p, rfl, hp, r⟩ := r
    have np : ∀ (i : Nat) m, gs[i]? = some (.own m) → gv[i]? = some (some (.ref p)) → False := fun i m e1 e2 => by
      obtain ⟨a, ev, q⟩ := h.ent i _ _ e1 e2
      cases ev
      exact q.tr hp
    refine ⟨by simp [h.len], fun i sl x e1 e2 => ?_, fun i j m1 m' a e1 e2 e3 e4 => ?_, fun i m a e1 e2 => ?_, fun i m a e1 e2 => ?_, fun i m a e1 e2 => ?_, h'.cel, h'.cnd, h'.cF, h'.cH, h'.fT, h'.keep, h'.fF, h'.fN, h'.cN, fun i m a e1 e2 => ?_, h'.rho, h'.nx⟩
    · cases i with
      | zero => cases e1; cases e2; exact ⟨p, rfl, r⟩
      | succ i => exact h'.ent i sl x e1 e2
    · cases i with
      | zero =>
        cases e2
        cases j with
        | zero => rfl
        | succ j => exact (np j m' e3 e4).elim
      | succ i =>
        cases j with
        | zero => cases e4; exact (np i m1 e1 e2).elim
        | succ j => rw [h.uniq i j m1 m' a e1 e2 e3 e4]
    · cases i with
      | zero => cases e2; exact fun q => h.fT p q hp
      | succ i => exact h.nF i m a e1 e2
    · cases i with
      | zero => cases e2; exact fun q => h.cH p q hp
      | succ i => exact h.nC i m a e1 e2
    · cases i with
      | zero => cases e1
      | succ i => exact h.pC i m a e1 e2
    · cases i with
      | zero => cases e2; exact (h.fresh0 hp).symm
      | succ i => exact h.oN i m a e1 e2
/-- two operands, then what is done with what is read of them -/
def dOp2 {α : Type} (f : W → W → Option α) (a b : DE) : Tau → Store → R α := fun τ S => (a τ S).bind fun x τ S => (b τ S).bind fun y τ S => R.of (match x.rdS S, y.rdS S with
  | some x, some y => f x y
  | _, _ => none) τ S
abbrev dBin (f : W → W → Option Sl) (a b : DE) : DE := dOp2 f a b
theorem two_rd {α : Type} {f : W → W → Option α} {S : Store} {x y : Sl} {r : α} (h : (match x.rdS S, y.rdS S with
  | some x, some y => f x y
  | _, _ => none) = some r) : ∃ wx wy, x.rdS S = some wx ∧ y.rdS S = some wy ∧ f wx wy = some r := by
  cases hx : x.rdS S with
  | none => rw [hx] at h; cases h
  | some wx =>
    cases hy : y.rdS S with
    | none => rw [hx, hy] at h; cases h
    | some wy => rw [hx, hy] at h; exact ⟨wx, wy, rfl, rfl, h⟩
/-- the two operands stand on the stack -/
theorem sim_two {α : Type} {ta tb : TE} {da db : DE} {f : W → W → Option α} (sa : Sim B E ta da) (sb : Sim B E tb db) {F ρ stk vstk τ σ S H C} (hl : stk.length = vstk.length) (h : StR B F ρ (stk ++ τ) (vstk ++ σ) S H C)
    {P : α → Tau → Store → Prop} (k : RP (dOp2 f da db τ S) P E) {R2' : V → V → Hp → Prop}
    (fin : ∀ x y wx wy r vx vy τ' S' F' ρ' H' C', StR B F' ρ' (y :: x :: (stk ++ τ')) (some vy :: some vx :: (vstk ++ σ)) S' H' C' → RdW (gOf B F' ρ' S' H') wx vx → RdW (gOf B F' ρ' S' H') wy vy → f wx wy = some r → P r τ' S' → R2' vx vy H') :
    ta σ H fun vx H1 => tb σ H1 fun vy H2 => R2' vx vy H2 := by
  refine sa F ρ stk vstk τ σ S H C _ hl h (k.bind.mono fun x τ1 S1 k vx H1 F1 ρ1 C1 h1 => ?_)
  refine sb F1 ρ1 (x :: stk) (some vx :: vstk) τ1 σ S1 H1 C1 _ (by simp [hl]) h1 (k.bind.mono fun y τ2 S2 k vy H2 F2 ρ2 C2 h2 => ?_)
  obtain ⟨r, e, k⟩ := k.of
  obtain ⟨wx, wy, hx, hy, e⟩ := two_rd e
  obtain ⟨vy', ey, ry⟩ := (StR.top h2).rdS h2.cel hy
  cases ey
  obtain ⟨vx', ex, rx⟩ := (StR.top (StR.pop h2)).rdS h2.cel hx
  cases ex
  exact fin x y wx wy r vx vy τ2 S2 F2 ρ2 H2 C2 h2 rx ry e k
theorem sim_op2 {ta tb : TE} {da db : DE} {f : W → W → Option Sl} {r : R2} {K : PySem.W.Frag} (hK : K = B.K) (sa : Sim B E ta da) (sb : Sim B E tb db) (sr : SimOp2 K f r) : Sim B E (tOp r ta tb) (dOp2 f da db) := by
  intro F ρ stk vstk τ σ S H C Q hl h k
  exact sim_two sa sb hl h k fun x y wx wy res vx vy τ' S' F' ρ' H' C' h2 rx ry e k => sr (gOf B F' ρ' S' H') wx wy vx vy res Q hK.symm rx ry e fun v H3 e3 r3 => k v H3 F' ρ' C' ((StR.pop (StR.pop h2)).result e3 r3)
theorem ve_bin {op : Operator} {a b : Expr} {pos : Pos} {da db : DE} (ha : VE D Wx a da) (hb : VE D Wx b db) : VE D Wx (.BinOp a op b pos) (dBin (opBin op) da db) := by
  obtain ⟨ta, pa, sa⟩ := ha
  obtain ⟨tb, pb, sb⟩ := hb
  obtain ⟨r, ho, sr⟩ := bin_rule D.K op
  exact ⟨_, fun X c => pe_op (ho X c.K) (pa X c) (pb X c), fun B E hK i => sim_op2 hK.symm (sa B E hK i) (sb B E hK i) sr⟩
/-! ### comparisons -/
def dCmp (f : W → W → Option Bool) (a b : DE) : DE := dOp2 (fun x y => (f x y).map fun k => .val (.bl k)) a b
def dCmpT (f : W → W → Option Bool) (a b : DE) : DT := dOp2 f a b
theorem SimCmp.op2 {K : PySem.W.Frag} {f : W → W → Option Bool} {r : R2} (h : SimCmp K f r) : SimOp2 K (fun x y => (f x y).map fun k => .val (.bl k)) r := by
  intro g x y vx vy res Q hK rx ry e hq
  obtain ⟨b, e2, rfl⟩ := Option.map_eq_some_iff.mp e
  exact h g x y vx vy b Q hK rx ry e2 (hq.val (repBl b))
theorem ve_cmp {op : CmpOp} {a b : Expr} {pos : Pos} {da db : DE} (ha : VE D Wx a da) (hb : VE D Wx b db) (hm : behindInMarks op b = false) : VE D Wx (.Compare a [op] [b] pos) (dCmp (opCmp op) da db) := by
  obtain ⟨ta, pa, sa⟩ := ha
  obtain ⟨tb, pb, sb⟩ := hb
  obtain ⟨r, ho, sr⟩ := cmp_rule D.K op
  exact ⟨_, fun X c => pe_cmpR (ho X c.K c.un) (pa X c) (pb X c) hm, fun B E hK i => sim_op2 hK.symm (sa B E hK i) (sb B E hK i) sr.op2⟩
theorem vt_cmp {op : CmpOp} {a b : Expr} {pos : Pos} {da db : DE} (ha : VE D Wx a da) (hb : VE D Wx b db) (hm : behindInMarks op b = false) : VT D Wx (.Compare a [op] [b] pos) (dCmpT (opCmp op) da db) := by
  obtain ⟨ta, pa, sa⟩ := ha
  obtain ⟨tb, pb, sb⟩ := hb
  obtain ⟨r, ho, sr⟩ := cmp_rule D.K op
  refine ⟨_, fun X c => pt_cmpR (ho X c.K c.un) (pa X c) (pb X c) hm, fun B E hK i F ρ stk vstk τ σ S H C Q hl h k => ?_⟩
  show tOp r ta tb σ H fun x H' => ∃ k, x = .bl k ∧ Q k H'
  exact sim_two (sa B E hK i) (sb B E hK i) hl h k fun x y wx wy b vx vy τ' S' F' ρ' H' C' h2 rx ry e k => sr (gOf B F' ρ' S' H') wx wy vx vy b _ hK rx ry e ⟨b, rfl, k H' F' ρ' C' (StR.pop (StR.pop h2))⟩
/-- a op b op' c -/
def dChain (f f' : W → W → Option Bool) (a b c : DE) : DE := fun τ S => (a τ S).bind fun x τ S => (b τ S).bind fun y τ S => (R.of (match x.rdS S, y.rdS S with
    | some x, some y => f x y
    | _, _ => none) τ S).bind fun k τ S => match k with
      | false => .ok (.val (.bl false)) τ S
      | true => (c τ S).bind fun z τ S => R.of (match y.rdS S, z.rdS S with
        | some y, some z => (f' y z).map fun k => .val (.bl k)
        | _, _ => none) τ S
theorem sim_chain {ta tb tc : TE} {da db dc : DE} {f f' : W → W → Option Bool} {r r' : R2} {K : PySem.W.Frag} (hK : K = B.K) (sa : Sim B E ta da) (sb : Sim B E tb db) (sc : Sim B E tc dc) (sr : SimCmp K f r) (sr' : SimCmp K f' r') :
    Sim B E (tChain r r' ta tb tc) (dChain f f' da db dc) := by
  intro F ρ stk vstk τ σ S H C Q hl h k
  refine sa F ρ stk vstk τ σ S H C _ hl h (k.bind.mono fun x τ1 S1 k vx H1 F1 ρ1 C1 h1 => ?_)
  refine sb F1 ρ1 (x :: stk) (some vx :: vstk) τ1 σ S1 H1 C1 _ (by simp [hl]) h1 (k.bind.mono fun y τ2 S2 k vy H2 F2 ρ2 C2 h2 => ?_)
  obtain ⟨b, e, k⟩ := k.bind.of
  obtain ⟨wx, wy, hx, hy, e⟩ := two_rd e
  obtain ⟨vy', ey, ry⟩ := (StR.top h2).rdS h2.cel hy
  cases ey
  obtain ⟨vx', ex, rx⟩ := (StR.top (StR.pop h2)).rdS h2.cel hx
  cases ex
  refine sr (gOf B F2 ρ2 S2 H2) wx wy vx vy b _ hK.symm rx ry e ⟨b, rfl, ?_⟩
  cases b with
  | false =>
    rw [if_neg Bool.false_ne_true]
    exact k _ H2 F2 ρ2 C2 ((StR.pop (StR.pop h2)).push (repBl false))
  | true =>
    rw [if_pos rfl]
    refine sc F2 ρ2 (y :: x :: stk) (some vy :: some vx :: vstk) τ2 σ S2 H2 C2 _ (by simp [hl]) h2 ((RP.bind k).mono fun z τ3 S3 k vz H3 F3 ρ3 C3 h3 => ?_)
    obtain ⟨res, e, k⟩ := k.of
    obtain ⟨wy2, wz, hy2, hz, e⟩ := two_rd (f := fun y z => (f' y z).map fun k => Sl.val (.bl k)) e
    obtain ⟨b', e2, rfl⟩ := Option.map_eq_some_iff.mp e
    obtain ⟨vz', ez, rz⟩ := (StR.top h3).rdS h3.cel hz
    cases ez
    obtain ⟨vy', ey, ry⟩ := (StR.top (StR.pop h3)).rdS h3.cel hy2
    cases ey
    exact sr' (gOf B F3 ρ3 S3 H3) wy2 wz vy vz b' _ hK.symm ry rz e2 (k _ H3 F3 ρ3 C3 ((StR.pop (StR.pop (StR.pop h3))).push (repBl b')))
theorem ve_chain {op op' : CmpOp} {a b c : Expr} {pos : Pos} {da db dc : DE} (ha : VE D Wx a da) (hb : VE D Wx b db) (hc : VE D Wx c dc) (hm : lastMarks [op, op'] [b, c] = false) :
    VE D Wx (.Compare a [op, op'] [b, c] pos) (dChain (opCmp op) (opCmp op') da db dc) := by
  obtain ⟨ta, pa, sa⟩ := ha
  obtain ⟨tb, pb, sb⟩ := hb
  obtain ⟨tc, pc, sc⟩ := hc
  obtain ⟨r, ho, sr⟩ := cmp_rule D.K op
  obtain ⟨r', ho', sr'⟩ := cmp_rule D.K op'
  exact ⟨_, fun X c => pe_chain (ho X c.K c.un) (ho' X c.K c.un) (pa X c) (pb X c) (pc X c) hm, fun B E hK i => sim_chain hK.symm (sa B E hK i) (sb B E hK i) (sc B E hK i) sr sr'⟩
/-- a value that is a truth, as a test -/
def dTest (d : DE) : DT := fun τ S => (d τ S).bind fun x τ S => R.of (match x with
  | .val (.bl b) => some b
  | _ => none) τ S
theorem sim_test {t : TE} {d : DE} (s : Sim B E t d) : SimT B E (fun σ H Q => t σ H fun x H' => ∃ k, x = .bl k ∧ Q k H') (dTest d) := by
  intro F ρ stk vstk τ σ S H C Q hl h k
  refine s F ρ stk vstk τ σ S H C _ hl h (k.bind.mono fun x τ1 S1 k vx H1 F1 ρ1 C1 h1 => ?_)
  obtain ⟨b, e, k⟩ := k.of
  have ex : x = .val (.bl b) := by
    split at e
    · cases e; rfl
    · cases e
  subst ex
  obtain ⟨v, ev, r⟩ := StR.top h1
  cases ev
  have ev : vx = .bl b := by unfold Rep at r; exact r
  exact ⟨b, ev, k H1 F1 ρ1 C1 (StR.pop h1)⟩
theorem vt_chain {op op' : CmpOp} {a b c : Expr} {pos : Pos} {da db dc : DE} (ha : VE D Wx a da) (hb : VE D Wx b db) (hc : VE D Wx c dc) (hm : lastMarks [op, op'] [b, c] = false) :
    VT D Wx (.Compare a [op, op'] [b, c] pos) (dTest (dChain (opCmp op) (opCmp op') da db dc)) := by
  obtain ⟨ta, pa, sa⟩ := ha
  obtain ⟨tb, pb, sb⟩ := hb
  obtain ⟨tc, pc, sc⟩ := hc
  obtain ⟨r, ho, sr⟩ := cmp_rule D.K op
  obtain ⟨r', ho', sr'⟩ := cmp_rule D.K op'
  exact ⟨_, fun X c => pt_chain (ho X c.K c.un) (ho' X c.K c.un) (pa X c) (pb X c) (pc X c) hm, fun B E hK i => sim_test (sim_chain hK.symm (sa B E hK i) (sb B E hK i) (sc B E hK i) sr sr')⟩
theorem vt_val {e : Expr} {d : DE} (h : VE D Wx e d) (he : ∀ env whole, isTrue e env whole = (do let v ← whole; standAt e.pos; holding [v] (truthy v))) : VT D Wx e (dTest d) := by
  obtain ⟨t, p, s⟩ := h
  exact ⟨_, fun X c => pt_val (p X c) (he X.env), fun B E hK i => sim_test (s B E hK i)⟩
/-! ### and, or, not, if -/
def dNotT (d : DT) : DT := fun τ S => (d τ S).bind fun b τ S => .ok (!b) τ S
def dAndT (a b : DT) : DT := fun τ S => (a τ S).bind fun k τ S => match k with
  | true => b τ S
  | false => .ok false τ S
def dOrT (a b : DT) : DT := fun τ S => (a τ S).bind fun k τ S => match k with
  | true => .ok true τ S
  | false => b τ S
theorem vt_not {e : Expr} {d : DT} {pos : Pos} (h : VT D Wx e d) : VT D Wx (.UnaryOp .Not e pos) (dNotT d) := by
  obtain ⟨t, p, s⟩ := h
  refine ⟨_, fun X c => pt_not (p X c), fun B E hK i F ρ stk vstk τ σ S H C Q hl h k => ?_⟩
  exact s B E hK i F ρ stk vstk τ σ S H C _ hl h (k.bind.mono fun b τ1 S1 k H1 F1 ρ1 C1 h1 => k H1 F1 ρ1 C1 h1)
def VW (D : DC) (Wx : WX) (e : Expr) (d : DT) : Prop := ∃ t0, (∀ X, CxOk D Wx X → PW X e t0) ∧ ∀ B E, B.K = D.K → Imp B E Wx → SimT B E t0 d
theorem VW.vt {e : Expr} {d : DT} (h : VW D Wx e d) : VT D Wx e d := by
  obtain ⟨t, p, s⟩ := h
  exact ⟨t, fun X c => (p X c).pt, s⟩
theorem vw_and1 {a : Expr} {pos : Pos} {d : DT} (h : VT D Wx a d) : VW D Wx (.BoolOp .And [a] pos) d := by
  obtain ⟨t, p, s⟩ := h
  exact ⟨t, fun X c => pw_and1 (p X c), s⟩
theorem vw_or1 {a : Expr} {pos : Pos} {d : DT} (h : VT D Wx a d) : VW D Wx (.BoolOp .Or [a] pos) d := by
  obtain ⟨t, p, s⟩ := h
  exact ⟨t, fun X c => pw_or1 (p X c), s⟩
theorem vw_and {a b : Expr} {rest : List Expr} {pos : Pos} {da db : DT} (ha : VT D Wx a da) (hb : VW D Wx (.BoolOp .And (b :: rest) pos) db) : VW D Wx (.BoolOp .And (a :: b :: rest) pos) (dAndT da db) := by
  obtain ⟨ta, pa, sa⟩ := ha
  obtain ⟨tb, pb, sb⟩ := hb
  refine ⟨_, fun X c => pw_and (pa X c) (pb X c), fun B E hK i F ρ stk vstk τ σ S H C Q hl h k => ?_⟩
  refine sa B E hK i F ρ stk vstk τ σ S H C _ hl h (k.bind.mono fun b τ1 S1 k H1 F1 ρ1 C1 h1 => ?_)
  cases b with
  | true => rw [if_pos rfl]; exact sb B E hK i F1 ρ1 stk vstk τ1 σ S1 H1 C1 _ hl h1 k
  | false => rw [if_neg Bool.false_ne_true]; exact k H1 F1 ρ1 C1 h1
theorem vw_or {a b : Expr} {rest : List Expr} {pos : Pos} {da db : DT} (ha : VT D Wx a da) (hb : VW D Wx (.BoolOp .Or (b :: rest) pos) db) : VW D Wx (.BoolOp .Or (a :: b :: rest) pos) (dOrT da db) := by
  obtain ⟨ta, pa, sa⟩ := ha
  obtain ⟨tb, pb, sb⟩ := hb
  refine ⟨_, fun X c => pw_or (pa X c) (pb X c), fun B E hK i F ρ stk vstk τ σ S H C Q hl h k => ?_⟩
  refine sa B E hK i F ρ stk vstk τ σ S H C _ hl h (k.bind.mono fun b τ1 S1 k H1 F1 ρ1 C1 h1 => ?_)
  cases b with
  | true => rw [if_pos rfl]; exact k H1 F1 ρ1 C1 h1
  | false => rw [if_neg Bool.false_ne_true]; exact sb B E hK i F1 ρ1 stk vstk τ1 σ S1 H1 C1 _ hl h1 k
/-- .. as values -/
def dAndV (a b : DE) : DE := fun τ S => (a τ S).bind fun x τ S => match x with
  | .val (.bl true) => b τ S
  | .val (.bl false) => .ok (.val (.bl false)) τ S
  | _ => .no
def dOrV (a b : DE) : DE := fun τ S => (a τ S).bind fun x τ S => match x with
  | .val (.bl true) => .ok (.val (.bl true)) τ S
  | .val (.bl false) => b τ S
  | _ => .no
def dNotV (a : DE) : DE := fun τ S => (a τ S).bind fun x τ S => match x with
  | .val (.bl k) => .ok (.val (.bl (!k))) τ S
  | _ => .no
theorem topBl {F : Addr → Prop} {ρ : Nat → Addr} {gs : List Sl} {gv : List (Option V)} {S : Store} {H : Hp} {C : List Addr} {k : Bool} {v : V} (h : StR B F ρ (.val (.bl k) :: gs) (some v :: gv) S H C) : v = .bl k := by
  obtain ⟨v', ev, r⟩ := StR.top h
  cases ev
  unfold Rep at r; exact r
theorem ve_one {op : BoolOp} {a : Expr} {pos : Pos} {d : DE} (h : VE D Wx a d) : VE D Wx (.BoolOp op [a] pos) d := by
  obtain ⟨t, p, s⟩ := h
  exact ⟨t, fun X c => pe_one (p X c), s⟩
theorem ve_and {a b : Expr} {rest : List Expr} {pos : Pos} {da db : DE} (ha : VE D Wx a da) (hb : VE D Wx (.BoolOp .And (b :: rest) pos) db) : VE D Wx (.BoolOp .And (a :: b :: rest) pos) (dAndV da db) := by
  obtain ⟨ta, pa, sa⟩ := ha
  obtain ⟨tb, pb, sb⟩ := hb
  refine ⟨_, fun X c => pe_and (pa X c) (pb X c), fun B E hK i F ρ stk vstk τ σ S H C Q hl h k => ?_⟩
  refine sa B E hK i F ρ stk vstk τ σ S H C _ hl h (k.bind.mono fun x τ1 S1 k v H1 F1 ρ1 C1 h1 => ?_)
  split at k
  · refine ⟨true, topBl h1, ?_⟩
    rw [if_pos rfl]
    exact sb B E hK i F1 ρ1 stk vstk τ1 σ S1 H1 C1 _ hl (StR.pop h1) k
  · refine ⟨false, topBl h1, ?_⟩
    rw [if_neg Bool.false_ne_true]
    have := topBl h1
    subst this
    exact k _ H1 F1 ρ1 C1 h1
  · exact k.elim
theorem ve_or {a b : Expr} {rest : List Expr} {pos : Pos} {da db : DE} (ha : VE D Wx a da) (hb : VE D Wx (.BoolOp .Or (b :: rest) pos) db) : VE D Wx (.BoolOp .Or (a :: b :: rest) pos) (dOrV da db) := by
  obtain ⟨ta, pa, sa⟩ := ha
  obtain ⟨tb, pb, sb⟩ := hb
  refine ⟨_, fun X c => pe_or (pa X c) (pb X c), fun B E hK i F ρ stk vstk τ σ S H C Q hl h k => ?_⟩
  refine sa B E hK i F ρ stk vstk τ σ S H C _ hl h (k.bind.mono fun x τ1 S1 k v H1 F1 ρ1 C1 h1 => ?_)
  split at k
  · refine ⟨true, topBl h1, ?_⟩
    rw [if_pos rfl]
    have := topBl h1
    subst this
    exact k _ H1 F1 ρ1 C1 h1
  · refine ⟨false, topBl h1, ?_⟩
    rw [if_neg Bool.false_ne_true]
    exact sb B E hK i F1 ρ1 stk vstk τ1 σ S1 H1 C1 _ hl (StR.pop h1) k
  · exact k.elim
theorem ve_not {a : Expr} {pos : Pos} {da : DE} (ha : VE D Wx a da) : VE D Wx (.UnaryOp .Not a pos) (dNotV da) := by
  obtain ⟨ta, pa, sa⟩ := ha
  refine ⟨_, fun X c => pe_not (pa X c), fun B E hK i F ρ stk vstk τ σ S H C Q hl h k => ?_⟩
  refine sa B E hK i F ρ stk vstk τ σ S H C _ hl h (k.bind.mono fun x τ1 S1 k v H1 F1 ρ1 C1 h1 => ?_)
  split at k
  · rename_i b
    exact ⟨b, topBl h1, k _ H1 F1 ρ1 C1 ((StR.pop h1).push (repBl _))⟩
  · exact k.elim
def dNeg (a : DE) : DE := fun τ S => (a τ S).bind fun x τ S => match x with
  | .val (.int k) => .ok (.val (.int (-k))) τ S
  | _ => .no
theorem ve_neg {a : Expr} {pos : Pos} {da : DE} (ha : VE D Wx a da) : VE D Wx (.UnaryOp .USub a pos) (dNeg da) := by
  obtain ⟨ta, pa, sa⟩ := ha
  refine ⟨_, fun X c => pe_un un_neg (pa X c), fun B E hK i F ρ stk vstk τ σ S H C Q hl h k => ?_⟩
  refine sa B E hK i F ρ stk vstk τ σ S H C _ hl h (k.bind.mono fun x τ1 S1 k v H1 F1 ρ1 C1 h1 => ?_)
  split at k
  · rename_i b
    obtain ⟨v', ev, r⟩ := StR.top h1
    cases ev
    unfold Rep at r
    exact ⟨b, r, k _ H1 F1 ρ1 C1 ((StR.pop h1).push (repInt _))⟩
  · exact k.elim
def dIf (t : DT) (a b : DE) : DE := fun τ S => (t τ S).bind fun k τ S => match k with
  | true => a τ S
  | false => b τ S
theorem ve_if {c a b : Expr} {pos : Pos} {dc : DT} {da db : DE} (hc : VT D Wx c dc) (ha : VE D Wx a da) (hb : VE D Wx b db) : VE D Wx (.IfExp c a b pos) (dIf dc da db) := by
  obtain ⟨tc, pc, sc⟩ := hc
  obtain ⟨ta, pa, sa⟩ := ha
  obtain ⟨tb, pb, sb⟩ := hb
  refine ⟨_, fun X c => pe_ifExp (pc X c) (pa X c) (pb X c), fun B E hK i F ρ stk vstk τ σ S H C Q hl h k => ?_⟩
  refine sc B E hK i F ρ stk vstk τ σ S H C _ hl h (k.bind.mono fun b τ1 S1 k H1 F1 ρ1 C1 h1 => ?_)
  cases b with
  | true => rw [if_pos rfl]; exact sa B E hK i F1 ρ1 stk vstk τ1 σ S1 H1 C1 _ hl h1 k
  | false => rw [if_neg Bool.false_ne_true]; exact sb B E hK i F1 ρ1 stk vstk τ1 σ S1 H1 C1 _ hl h1 k
end
end VM

set_option Elab.async false
set_option linter.all false
/-! VM6: arguments, displays, calls of what is built in, subscripts. -/
namespace VM
open PySem PySem.Spec L2
open PyProof.Rows hiding St

/-! ### arguments -/
def dNil : DA := fun τ S => .ok [] τ S
def dCons (a : DE) (r : DA) : DA := fun τ S => (a τ S).bind fun x τ S => (r τ S).bind fun xs τ S => .ok (x :: xs) τ S
section
variable {B : Base} {E : XW} {D : DC} {Wx : WX}
theorem va_nil : VA D Wx [] dNil := by
  refine ⟨_, fun X c => pa_nil, fun B E hK i F ρ stk vstk τ σ S H C Q hl h k => ?_⟩
  exact k [] H F ρ C rfl h
/-- no *e among arguments -/
def notStar : Expr → Bool
  | .Starred .. => false
  | _ => true
theorem starEach_cons {e : Expr} {es : List Expr} {env : Env} (h : notStar e = true) : starEach (e :: es) env = (false, eval e env) :: starEach es env := by
  cases e <;> first | rfl | cases h
theorem starEach_none {env : Env} : ∀ {es : List Expr}, (es.all notStar) = true → ∀ x ∈ starEach es env, x.1 = false
  | [], _, x, hx => by cases hx
  | e :: es, h, x, hx => by
    rw [List.all_cons, Bool.and_eq_true] at h
    rw [starEach_cons h.1] at hx
    rcases List.mem_cons.mp hx with rfl | hx
    · rfl
    · exact starEach_none h.2 x hx
theorem va_cons {e : Expr} {es : List Expr} {d : DE} {r : DA} (hs : notStar e = true) (h1 : VE D Wx e d) (h2 : VA D Wx es r) : VA D Wx (e :: es) (dCons d r) := by
  obtain ⟨te, pe, se⟩ := h1
  obtain ⟨ta, pa, sa⟩ := h2
  refine ⟨_, fun X c => pa_cons (pe X c) (pa X c) (starEach_cons hs), fun B E hK i F ρ stk vstk τ σ S H C Q hl h k => ?_⟩
  refine se B E hK i F ρ stk vstk τ σ S H C _ hl h (k.bind.mono fun x τ1 S1 k v H1 F1 ρ1 C1 h1 => ?_)
  refine sa B E hK i F1 ρ1 (x :: stk) (some v :: vstk) τ1 σ S1 H1 C1 _ (by simp [hl]) h1 (k.bind.mono fun xs τ2 S2 k vs H2 F2 ρ2 C2 e2 h2 => ?_)
  refine k (v :: vs) H2 F2 ρ2 C2 (by simp [e2]) ?_
  rw [List.reverse_cons, List.reverse_cons, List.map_append, List.append_assoc, List.append_assoc]
  exact h2
/-- what is fresh is frozen -/
def dKeep (a : DE) : DE := fun τ S => (a τ S).bind fun x τ S => R.of (x.kp.map .val) τ S
theorem sim_keep {t : TE} {d : DE} (s : Sim B E t d) : Sim B E t (dKeep d) := by
  intro F ρ stk vstk τ σ S H C Q hl h k
  have mono : ∀ {P P' : VK}, (∀ v H, P v H → P' v H) → P = P' → True := fun _ _ => trivial
  refine s F ρ stk vstk τ σ S H C Q hl h (k.bind.mono fun x τ1 S1 k v H1 F1 ρ1 C1 h1 => ?_)
  obtain ⟨r, e, k⟩ := k.of
  obtain ⟨w, ew, rfl⟩ := Option.map_eq_some_iff.mp e
  cases x with
  | no => cases ew
  | pk w => cases ew
  | val w' => cases ew; exact k v H1 F1 ρ1 C1 h1
  | own m =>
    cases ew
    obtain ⟨a, ev, r⟩ := StR.top h1
    cases ev
    obtain ⟨h2, r2⟩ := h1.freezeAt (i := 0) rfl rfl
    exact k _ H1 _ ρ1 C1 h2
theorem ve_keep {e : Expr} {d : DE} (h : VE D Wx e d) : VE D Wx e (dKeep d) := by
  obtain ⟨t, p, s⟩ := h
  exact ⟨t, p, fun B E hK i => sim_keep (s B E hK i)⟩
/-- the entries on top, one by one -/
theorem tops : ∀ {rs : List Sl} {vs : List V} {F ρ gs gv S H C}, rs.length = vs.length → StR B F ρ (rs.reverse ++ gs) (vs.reverse.map some ++ gv) S H C → Paired (fun sl v => ER (gOf B F ρ S H) sl (some v)) rs vs
  | [], [], _, _, _, _, _, _, _, _, _ => .nil
  | [], _ :: _, _, _, _, _, _, _, _, e, _ => by simp at e
  | _ :: _, [], _, _, _, _, _, _, _, e, _ => by simp at e
  | r :: rs, v :: vs, F, ρ, gs, gv, S, H, C, e, h => by
    rw [List.reverse_cons, List.reverse_cons, List.map_append, List.append_assoc, List.append_assoc] at h
    have e' : rs.length = vs.length := by simpa using e
    refine .cons ?_ (tops e' h)
    have h2 := StR.pops rs.reverse (vs.reverse.map some) (by simp [e']) h
    exact StR.top h2
theorem popAll {rs : List Sl} {vs : List V} {F ρ gs gv S H C} (e : rs.length = vs.length) (h : StR B F ρ (rs.reverse ++ gs) (vs.reverse.map some ++ gv) S H C) : StR B F ρ gs gv S H C :=
  StR.pops rs.reverse (vs.reverse.map some) (by simp [e]) h
/-- what is read of the entries -/
def rdAll (S : Store) : List Sl → Option (List W)
  | [] => some []
  | x :: r => match x.rdS S, rdAll S r with
    | some w, some ws => some (w :: ws)
    | _, _ => none
theorem rdAll_cons {S : Store} {x : Sl} {r : List Sl} {ws : List W} (h : rdAll S (x :: r) = some ws) : ∃ w s, ws = w :: s ∧ x.rdS S = some w ∧ rdAll S r = some s := by
  unfold rdAll at h
  cases hx : x.rdS S with
  | none => rw [hx] at h; cases h
  | some w =>
    cases hr : rdAll S r with
    | none => rw [hx, hr] at h; cases h
    | some s => rw [hx, hr] at h; cases h; exact ⟨w, s, rfl, rfl, rfl⟩
theorem rds {g : G} {S : Store} {C : List Addr} (hc : CellsR g S.cells C) : ∀ {rs : List Sl} {vs : List V} {ws : List W}, Paired (fun sl v => ER g sl (some v)) rs vs → rdAll S rs = some ws → Paired (RdW g) ws vs
  | _, _, _, .nil, e => by cases e; exact .nil
  | _, _, _, .cons r t, e => by
    obtain ⟨w, s, rfl, h1, h2⟩ := rdAll_cons e
    obtain ⟨v', ev, q⟩ := ER.rdS r hc h1
    cases ev
    exact .cons q (rds hc t h2)
/-- values alone -/
def valAll : List Sl → Option (List W)
  | [] => some []
  | .val w :: r => (valAll r).map (w :: ·)
  | _ :: _ => none
theorem vals_all {g : G} : ∀ {rs : List Sl} {vs : List V} {ws : List W}, Paired (fun sl v => ER g sl (some v)) rs vs → valAll rs = some ws → Reps g ws vs
  | _, _, _, .nil, e => by cases e; exact Reps.nil
  | .val w :: rs, _, _, .cons r t, e => by
    obtain ⟨s, h, rfl⟩ := Option.map_eq_some_iff.mp (show (valAll rs).map (w :: ·) = some _ from e)
    obtain ⟨v', ev, q⟩ := r
    cases ev
    exact Reps.cons q (vals_all t h)
  | .own _ :: _, _, _, .cons _ _, e => by cases e
  | .pk _ :: _, _, _, .cons _ _, e => by cases e
  | .no :: _, _, _, .cons _ _, e => by cases e

/-! ### displays -/
def dTup (a : DA) : DE := fun τ S => (a τ S).bind fun rs τ S => R.of ((valAll rs).bind fun ws => if ws.length ≤ seqLine then some (.val (.tup ws)) else none) τ S
def dLst (a : DA) : DE := fun τ S => (a τ S).bind fun rs τ S => R.of ((valAll rs).bind fun ws => if ws.length ≤ seqLine then some (.own (.lst ws)) else none) τ S
theorem disp_some {rs : List Sl} {f : List W → Sl} {r : Sl} (h : ((valAll rs).bind fun ws => if ws.length ≤ seqLine then some (f ws) else none) = some r) : ∃ ws, valAll rs = some ws ∧ ws.length ≤ seqLine ∧ r = f ws := by
  obtain ⟨ws, h1, h2⟩ := Option.bind_eq_some_iff.mp h
  split at h2
  · rename_i hz
    cases h2
    exact ⟨ws, h1, hz, rfl⟩
  · cases h2
theorem ve_tup {es : List Expr} {k : Nat} {pos : Pos} {d : DA} (h : VA D Wx es d) : VE D Wx (.Tuple es k pos) (dTup d) := by
  obtain ⟨t, p, s⟩ := h
  refine ⟨_, fun X c => pe_tup (p X c), fun B E hK i F ρ stk vstk τ σ S H C Q hl h k => ?_⟩
  refine s B E hK i F ρ stk vstk τ σ S H C _ hl h (k.bind.mono fun rs τ1 S1 k vs H1 F1 ρ1 C1 e1 h1 => ?_)
  obtain ⟨r, e, k⟩ := k.of
  obtain ⟨ws, hw, hz, rfl⟩ := disp_some (f := fun ws => .val (.tup ws)) e
  have rp := vals_all (tops e1 h1) hw
  refine ⟨by rw [← rp.length]; exact Nat.le_trans hz seqLine_le, fun p hp => ?_⟩
  have e2 : Ext H1 (upd H1 p (.tup vs)) := Ext.new hp
  refine k _ _ F1 ρ1 C1 ((popAll e1 h1).result e2 (res := .val (.tup ws)) ?_)
  exact repTup (.inl (.inl upd_same)) (Reps.le (G.le_ext (g := gOf B F1 ρ1 S1 H1) e2) _ _ rp)
theorem ve_lst {es : List Expr} {pos : Pos} {d : DA} (h : VA D Wx es d) : VE D Wx (.List es pos) (dLst d) := by
  obtain ⟨t, p, s⟩ := h
  refine ⟨_, fun X c => pe_lst (p X c), fun B E hK i F ρ stk vstk τ σ S H C Q hl h k => ?_⟩
  refine s B E hK i F ρ stk vstk τ σ S H C _ hl h (k.bind.mono fun rs τ1 S1 k vs H1 F1 ρ1 C1 e1 h1 => ?_)
  obtain ⟨r, e, k⟩ := k.of
  obtain ⟨ws, hw, hz, rfl⟩ := disp_some (f := fun ws => .own (.lst ws)) e
  have rp := vals_all (tops e1 h1) hw
  refine ⟨by rw [← rp.length]; exact Nat.le_trans hz seqLine_le, fun p hp => ?_⟩
  have e2 : Ext H1 (upd H1 p (.lst vs)) := Ext.new hp
  refine k _ _ F1 ρ1 C1 ((popAll e1 h1).result e2 (res := .own (.lst ws)) ?_)
  exact ⟨p, rfl, hp, vs, upd_same, Reps.le (G.le_ext (g := gOf B F1 ρ1 S1 H1) e2) _ _ rp⟩

/-! ### calls of what is built in -/
def SimC (K : PySem.W.Frag) (f : List W → Option Sl) (r : List V → Hp → VK → Prop) : Prop := ∀ (g : G) (ws : List W) (vs : List V) (res : Sl) (Q : VK), g.K = K → Paired (RdW g) ws vs → f ws = some res → ResOk g res Q → r vs g.H Q
def dCall (f : List W → Option Sl) (a : DA) : DE := fun τ S => (a τ S).bind fun rs τ S => R.of ((rdAll S rs).bind f) τ S
theorem sim_call {f : List W → Option Sl} {r : List V → Hp → VK → Prop} {t : TA} {d : DA} {K : PySem.W.Frag} (hK : B.K = K) (hf : SimC K f r) (s : SimA B E t d) : Sim B E (tCB r t) (dCall f d) := by
  intro F ρ stk vstk τ σ S H C Q hl h k
  refine s F ρ stk vstk τ σ S H C _ hl h (k.bind.mono fun rs τ1 S1 k vs H1 F1 ρ1 C1 e1 h1 => ?_)
  obtain ⟨r, e, k⟩ := k.of
  obtain ⟨ws, h1', h2'⟩ := Option.bind_eq_some_iff.mp e
  exact hf (gOf B F1 ρ1 S1 H1) ws vs r Q hK (rds h1.cel (tops e1 h1) h1') h2' fun v H2 e2 r2 => k v H2 F1 ρ1 C1 ((popAll e1 h1).result e2 r2)
theorem backTo_none {pos : Pos} {l : List (Bool × Sem Value)} (h : ∀ x ∈ l, x.1 = false) : (backTo pos l).any (·.1) = false := by
  rw [List.any_eq_false]
  intro x hx
  unfold backTo at hx
  obtain ⟨y, hy, rfl⟩ := List.mem_map.mp hx
  simp [h y hy]
theorem CxOk.gl {X : Cx} {x : Str} (c : CxOk D Wx X) (h : D.sc.names.lookup x = some .globalImplicit) : Gl X x := by
  unfold Gl Env.kindOf
  rw [c.sc]; exact h
/-- a built-in function by its name -/
theorem ve_callB {x : Str} {id : String} {f : List W → Option Sl} {r : List V → Hp → VK → Prop} {e : Expr} {es : List Expr} {p pos : Pos} {d : DA} (hc : ∀ X, CxOk D Wx X → CallR X (.builtin id) r) (hf : SimC D.K f r) (hg : D.sc.names.lookup x = some .globalImplicit) (hm : D.mg x = none)
    (hv : bootBuiltins x = some (.builtin id)) (ha : VA D Wx (e :: es) d) (hn : x ≠ "__name__") (hdb : (x == ("__debug__" : Str)) = false)
    (hs : ((e :: es).all notStar) = true) : VE D Wx (.Call (.Name x p) (e :: es) [] pos) (dCall f d) := by
  obtain ⟨t, pa, s⟩ := ha
  rw [List.all_cons, Bool.and_eq_true] at hs
  exact ⟨_, fun X c => pe_callB (hc X c) (c.gl hg) (by rw [c.mg]; exact hm) hv (pa X c) hn hdb (starEach_cons hs.1) (backTo_none (starEach_none hs.2)), fun B E hK i => sim_call hK hf (s B E hK i)⟩
theorem ve_callTy {x : Str} {T : String} {f : List W → Option Sl} {r : List V → Hp → VK → Prop} {e : Expr} {es : List Expr} {p pos : Pos} {d : DA} (hc : ∀ X, CxOk D Wx X → CallR X (.type T) r) (hf : SimC D.K f r) (hg : D.sc.names.lookup x = some .globalImplicit) (hm : D.mg x = none)
    (hv : bootBuiltins x = some (.type T)) (ha : VA D Wx (e :: es) d) (hn : x ≠ "__name__") (hdb : (x == ("__debug__" : Str)) = false)
    (hs : ((e :: es).all notStar) = true) : VE D Wx (.Call (.Name x p) (e :: es) [] pos) (dCall f d) := by
  obtain ⟨t, pa, s⟩ := ha
  rw [List.all_cons, Bool.and_eq_true] at hs
  exact ⟨_, fun X c => pe_callTy (hc X c) (c.gl hg) (by rw [c.mg]; exact hm) hv (pa X c) hn hdb (starEach_cons hs.1) (backTo_none (starEach_none hs.2)), fun B E hK i => sim_call hK hf (s B E hK i)⟩
end
/-! what they do -/
def f1 (g : W → Option Sl) : List W → Option Sl
  | [w] => g w
  | _ => none
def f2 (g : W → W → Option Sl) : List W → Option Sl
  | [w, u] => g w u
  | _ => none
theorem pd1 {g : G} {w : W} {vs : List V} (h : Paired (RdW g) [w] vs) : ∃ v, vs = [v] ∧ RdW g w v := by
  cases h with
  | cons r t => cases t; exact ⟨_, rfl, r⟩
theorem pd2 {g : G} {w u : W} {vs : List V} (h : Paired (RdW g) [w, u] vs) : ∃ v x, vs = [v, x] ∧ RdW g w v ∧ RdW g u x := by
  cases h with
  | cons r t =>
    obtain ⟨x, rfl, q⟩ := pd1 t
    exact ⟨_, x, rfl, r, q⟩
theorem simC1 {K : PySem.W.Frag} {f : W → Option Sl} {r : List V → Hp → VK → Prop} (h : ∀ (g : G) (w : W) (v : V) (res : Sl) (Q : VK), g.K = K → RdW g w v → f w = some res → ResOk g res Q → r [v] g.H Q) : SimC K (f1 f) r := by
  intro g ws vs res Q hK rs e hq
  match ws, rs, e with
  | [w], rs, e =>
    obtain ⟨v, rfl, r1⟩ := pd1 rs
    exact h g w v res Q hK r1 e hq
theorem simC2 {K : PySem.W.Frag} {f : W → W → Option Sl} {r : List V → Hp → VK → Prop} (h : ∀ (g : G) (w u : W) (v x : V) (res : Sl) (Q : VK), g.K = K → RdW g w v → RdW g u x → f w u = some res → ResOk g res Q → r [v, x] g.H Q) : SimC K (f2 f) r := by
  intro g ws vs res Q hK rs e hq
  match ws, rs, e with
  | [w, u], rs, e =>
    obtain ⟨v, x, rfl, r1, r2⟩ := pd2 rs
    exact h g w u v x res Q hK r1 r2 e hq
theorem CallR.or {X : Cx} {f : Value} {r r' : List V → Hp → VK → Prop} (h : CallR X f r) (h' : CallR X f r') : CallR X f (fun xs H Q => r xs H Q ∨ r' xs H Q) :=
  fun pl t τ K xs us P J rs q => q.elim (h pl t τ K xs us P J rs) (h' pl t τ K xs us P J rs)
/-- len -/
def fLen : W → Option Sl
  | .str x => sI x.length
  | .lst xs => sI xs.length
  | .tup xs => sI xs.length
  | _ => none
def rLenA (K : PySem.W.Frag) : List V → Hp → VK → Prop := fun xs H Q => (∃ p ys, xs = [.ref p] ∧ (SqL K H p ys ∨ SqT K H p ys) ∧ Q (.int ys.length) H) ∨ ∃ z, xs = [.str z] ∧ z.length ≤ sizeLine ∧ Q (.int z.length) H
theorem call_lenA {X : Cx} : CallR X (.builtin "len") (rLenA X.K) := CallR.or call_len_seq call_len_str
theorem sim_len {K : PySem.W.Frag} : SimC K (f1 fLen) (rLenA K) := simC1 fun g w v res Q hK r e h => by
  subst hK
  cases w with
  | str x =>
    have e : sI x.length = some res := e
    cases e
    obtain ⟨rfl, hz, _⟩ := rdStr r
    exact .inr ⟨x, rfl, Nat.le_trans hz strLine_le, h.val (repInt _)⟩
  | lst xs =>
    have e : sI xs.length = some res := e
    cases e
    obtain ⟨a, vs, rfl, q, r⟩ := r
    exact .inl ⟨a, vs, rfl, .inl q.sq, by rw [← r.length]; exact h.val (repInt _)⟩
  | tup xs =>
    have e : sI xs.length = some res := e
    cases e
    obtain ⟨a, vs, rfl, q, r⟩ := rdTup r
    exact .inl ⟨a, vs, rfl, .inr q, by rw [← r.length]; exact h.val (repInt _)⟩
  | _ => cases e
/-- int(truth), int(number) -/
def fInt : W → Option Sl
  | .int i => sI i
  | .bl k => sI (if k then 1 else 0)
  | _ => none
theorem sim_int {K : PySem.W.Frag} : SimC K (f1 fInt) (fun xs H Q => (∃ i, xs = [.int i] ∧ Q (.int i) H) ∨ ∃ k, xs = [.bl k] ∧ Q (.int (if k then 1 else 0)) H) := simC1 fun g w v res Q hK r e h => by
  cases w with
  | int i =>
    have e : sI i = some res := e
    cases e
    rw [rdInt r]
    exact .inl ⟨i, rfl, h.val (repInt _)⟩
  | bl k =>
    have e : sI (if k then 1 else 0) = some res := e
    cases e
    rw [rdBl r]
    exact .inr ⟨k, rfl, h.val (repInt _)⟩
  | _ => cases e
/-- divmod -/
def fDivmod : W → W → Option Sl
  | .int a, .int b => if 0 < b ∧ b < 1073741824 then some (.val (.tup [.int (a / b), .int (a % b)])) else none
  | _, _ => none
theorem sim_divmod {K : PySem.W.Frag} : SimC K (f2 fDivmod) (fun xs H Q => ∃ i j, xs = [.int i, .int j] ∧ CDiv i j ∧ ∀ p, H p = none → Q (.ref p) (upd H p (.tup [.int (i / j), .int (i % j)]))) := simC2 fun g w u v x res Q hK r1 r2 e h => by
  unfold fDivmod at e
  split at e
  · rename_i a b
    split at e
    · rename_i hc
      cases e
      rw [rdInt r1, rdInt r2]
      exact ⟨a, b, rfl, hc, h.tup (Reps.cons (repInt _) (Reps.cons (repInt _) Reps.nil))⟩
    · cases e
  · cases e
/-- whole numbers, truths of a list -/
def W.ints : List W → Option (List Int)
  | [] => some []
  | .int i :: r => (W.ints r).map (i :: ·)
  | _ :: _ => none
def W.bls : List W → Option (List Bool)
  | [] => some []
  | .bl i :: r => (W.bls r).map (i :: ·)
  | _ :: _ => none
theorem ints_some : ∀ {ws : List W} {ns : List Int}, W.ints ws = some ns → ws = ns.map .int
  | [], ns, h => by cases h; rfl
  | .int i :: r, ns, h => by
    obtain ⟨s, h2, rfl⟩ := Option.map_eq_some_iff.mp (show (W.ints r).map (i :: ·) = some ns from h)
    rw [ints_some h2] <;> rfl
theorem bls_some : ∀ {ws : List W} {ns : List Bool}, W.bls ws = some ns → ws = ns.map .bl
  | [], ns, h => by cases h; rfl
  | .bl i :: r, ns, h => by
    obtain ⟨s, h2, rfl⟩ := Option.map_eq_some_iff.mp (show (W.bls r).map (i :: ·) = some ns from h)
    rw [bls_some h2] <;> rfl
theorem W.ints_map : ∀ ns : List Int, W.ints (ns.map .int) = some ns
  | [] => rfl
  | n :: r => by
    show (W.ints (r.map .int)).map (n :: ·) = _
    rw [W.ints_map r] <;> rfl
theorem W.bls_map : ∀ ns : List Bool, W.bls (ns.map .bl) = some ns
  | [] => rfl
  | n :: r => by
    show (W.bls (r.map .bl)).map (n :: ·) = _
    rw [W.bls_map r] <;> rfl
theorem reps_ints {g : G} : ∀ {ns : List Int} {vs : List V}, Reps g (ns.map .int) vs → vs = ns.map V.int
  | [], vs, h => by unfold Reps at h; exact h
  | n :: ns, vs, h => by
    rw [List.map_cons] at h
    unfold Reps at h
    obtain ⟨v, s, rfl, a, b⟩ := h
    unfold Rep at a
    rw [a, reps_ints b] <;> rfl
theorem ints_reps {g : G} : ∀ ns : List Int, Reps g (ns.map .int) (ns.map V.int)
  | [] => Reps.nil
  | n :: ns => Reps.cons (repInt n) (ints_reps ns)
theorem reps_bls {g : G} : ∀ {ns : List Bool} {vs : List V}, Reps g (ns.map .bl) vs → vs = ns.map V.bl
  | [], vs, h => by unfold Reps at h; exact h
  | n :: ns, vs, h => by
    rw [List.map_cons] at h
    unfold Reps at h
    obtain ⟨v, s, rfl, a, b⟩ := h
    unfold Rep at a
    rw [a, reps_bls b] <;> rfl
/-- sum, all, any, of a list -/
def fSum : W → Option Sl
  | .lst xs => (W.ints xs).map fun ns => .val (.int ns.sum)
  | _ => none
def fAll : W → Option Sl
  | .lst xs => (W.bls xs).map fun ns => .val (.bl (ns.all id))
  | _ => none
def fAny : W → Option Sl
  | .lst xs => (W.bls xs).map fun ns => .val (.bl (ns.any id))
  | _ => none
theorem sim_sum {K : PySem.W.Frag} : SimC K (f1 fSum) (rSum K) := simC1 fun g w v res Q hK r e h => by
  subst hK
  cases w with
  | lst xs =>
    obtain ⟨ns, e2, rfl⟩ := Option.map_eq_some_iff.mp (show (W.ints xs).map (fun ns => Sl.val (.int ns.sum)) = some res from e)
    have ex := ints_some e2
    subst ex
    obtain ⟨a, vs, rfl, q, r⟩ := r
    have ev := reps_ints r
    subst ev
    exact ⟨a, ns, rfl, q.sq, h.val (repInt _)⟩
  | _ => cases e
theorem sim_all {K : PySem.W.Frag} : SimC K (f1 fAll) (rAll K) := simC1 fun g w v res Q hK r e h => by
  subst hK
  cases w with
  | lst xs =>
    obtain ⟨ns, e2, rfl⟩ := Option.map_eq_some_iff.mp (show (W.bls xs).map (fun ns => Sl.val (.bl (ns.all id))) = some res from e)
    have ex := bls_some e2
    subst ex
    obtain ⟨a, vs, rfl, q, r⟩ := r
    have ev := reps_bls r
    subst ev
    exact ⟨a, ns, rfl, q.sq, h.val (repBl _)⟩
  | _ => cases e
theorem sim_any {K : PySem.W.Frag} : SimC K (f1 fAny) (rAny K) := simC1 fun g w v res Q hK r e h => by
  subst hK
  cases w with
  | lst xs =>
    obtain ⟨ns, e2, rfl⟩ := Option.map_eq_some_iff.mp (show (W.bls xs).map (fun ns => Sl.val (.bl (ns.any id))) = some res from e)
    have ex := bls_some e2
    subst ex
    obtain ⟨a, vs, rfl, q, r⟩ := r
    have ev := reps_bls r
    subst ev
    exact ⟨a, ns, rfl, q.sq, h.val (repBl _)⟩
  | _ => cases e
/-- list(x), tuple(x) -/
def fList : W → Option Sl
  | .lst xs => some (.own (.lst xs))
  | .tup xs => some (.own (.lst xs))
  | _ => none
def fTuple : W → Option Sl
  | .lst xs => some (.val (.tup xs))
  | .tup xs => some (.val (.tup xs))
  | _ => none
theorem sim_list {K : PySem.W.Frag} : SimC K (f1 fList) (fun xs H Q => ∃ p ys, xs = [.ref p] ∧ (SqL K H p ys ∨ SqT K H p ys) ∧ ∀ l, H l = none → Q (.ref l) (upd H l (.lst ys))) := simC1 fun g w v res Q hK r e h => by
  subst hK
  cases w with
  | lst xs =>
    have e : some (Sl.own (.lst xs)) = some res := e
    cases e
    obtain ⟨a, vs, rfl, q, r⟩ := r
    exact ⟨a, vs, rfl, .inl q.sq, h.lst r⟩
  | tup xs =>
    have e : some (Sl.own (.lst xs)) = some res := e
    cases e
    obtain ⟨a, vs, rfl, q, r⟩ := rdTup r
    exact ⟨a, vs, rfl, .inr q, h.lst r⟩
  | _ => cases e
theorem sim_tuple {K : PySem.W.Frag} : SimC K (f1 fTuple) (fun xs H Q => ∃ p ys, xs = [.ref p] ∧ ((SqL K H p ys ∧ ∀ l, H l = none → Q (.ref l) (upd H l (.tup ys))) ∨ (SqT K H p ys ∧ Q (.ref p) H))) := simC1 fun g w v res Q hK r e h => by
  subst hK
  cases w with
  | lst xs =>
    have e : some (Sl.val (.tup xs)) = some res := e
    cases e
    obtain ⟨a, vs, rfl, q, r⟩ := r
    exact ⟨a, vs, rfl, .inl ⟨q.sq, h.tup r⟩⟩
  | tup xs =>
    have e : some (Sl.val (.tup xs)) = some res := e
    cases e
    obtain ⟨a, vs, rfl, q, r⟩ := rdTup r
    exact ⟨a, vs, rfl, .inr ⟨q, h.val (repTup q r)⟩⟩
  | _ => cases e
/-- the least, the greatest of two -/
def fMax2 : W → W → Option Sl
  | .int i, .int j => sI (if j > i then j else i)
  | _, _ => none
def fMin2 : W → W → Option Sl
  | .int i, .int j => sI (if j < i then j else i)
  | _, _ => none
theorem sim_max2 {K : PySem.W.Frag} : SimC K (f2 fMax2) (fun xs H Q => ∃ i j, xs = [.int i, .int j] ∧ Q (.int (if j > i then j else i)) H) := simC2 fun g w u v x res Q hK r1 r2 e h => by
  unfold fMax2 at e
  split at e
  · cases e
    rw [rdInt r1, rdInt r2]
    exact ⟨_, _, rfl, h.val (repInt _)⟩
  · cases e
theorem sim_min2 {K : PySem.W.Frag} : SimC K (f2 fMin2) (fun xs H Q => ∃ i j, xs = [.int i, .int j] ∧ Q (.int (if j < i then j else i)) H) := simC2 fun g w u v x res Q hK r1 r2 e h => by
  unfold fMin2 at e
  split at e
  · cases e
    rw [rdInt r1, rdInt r2]
    exact ⟨_, _, rfl, h.val (repInt _)⟩
  · cases e
/-! ### subscripts -/
def fIx : W → W → Option Sl
  | .lst xs, .int i => (atI xs i).map .val
  | .tup xs, .int i => (atI xs i).map .val
  | .str x, .int i => (atI x.cps.toList i).map fun c => .val (.str ⟨#[c]⟩)
  | _, _ => none
theorem atI_reps {g : G} {ws : List W} {vs : List V} {i : Int} {w : W} (r : Reps g ws vs) (h : atI ws i = some w) : ∃ v, atI vs i = some v ∧ Rep g w v := by
  unfold atI at h ⊢
  rw [← r.length]
  cases e : ixN ws.length i with
  | none => rw [e] at h; cases h
  | some j =>
    rw [e] at h
    exact r.get h
theorem strOk_sign {x : Str} {c : Nat} (h : PyData.strOk x = true) (hc : c ∈ x.cps.toList) : PyData.strOk ⟨#[c]⟩ = true := by
  unfold PyData.strOk at h ⊢
  rw [Array.all_eq_true_iff_forall_mem] at h
  have := h c (by simpa using hc)
  simpa using this
theorem atI_mem {α : Type} {xs : List α} {i : Int} {x : α} (h : atI xs i = some x) : x ∈ xs := by
  unfold atI at h
  cases e : ixN xs.length i with
  | none => rw [e] at h; cases h
  | some j => rw [e] at h; exact List.mem_of_getElem? h
theorem sim_ix {K : PySem.W.Frag} : SimOp2 K fIx (rIx K) := by
  intro g x y vx vy res Q hK rx ry e h
  subst hK
  unfold fIx at e
  split at e
  · rename_i xs i
    obtain ⟨w, e1, rfl⟩ := Option.map_eq_some_iff.mp e
    obtain ⟨a, vs, rfl, q, r⟩ := rx
    obtain ⟨v, e2, r2⟩ := atI_reps r e1
    rw [rdInt ry]
    exact .inl ⟨a, vs, i, v, rfl, rfl, q.sq, e2, h.val r2⟩
  · rename_i xs i
    obtain ⟨w, e1, rfl⟩ := Option.map_eq_some_iff.mp e
    obtain ⟨a, vs, rfl, q, r⟩ := rdTup rx
    obtain ⟨v, e2, r2⟩ := atI_reps r e1
    rw [rdInt ry]
    exact .inr (.inl ⟨a, vs, i, v, rfl, rfl, q, e2, h.val r2⟩)
  · rename_i z i
    obtain ⟨c, e1, rfl⟩ := Option.map_eq_some_iff.mp e
    obtain ⟨rfl, hz, hk⟩ := rdStr rx
    rw [rdInt ry]
    exact .inr (.inr ⟨z, i, c, rfl, rfl, Nat.le_trans hz strLine_le, e1, h.val (repStr (by show 1 ≤ strLine; decide) (strOk_sign hk (atI_mem e1)))⟩)
  · cases e
/-- a subscript that is no slice -/
def plainIx : Expr → Bool
  | .Slice .. => false
  | .Tuple .. => false
  | _ => true
theorem plainIx_of {b : Expr} (h : plainIx b = true) : PlainIx b := by
  cases b <;> first | (intro _ _; rfl) | cases h
theorem ve_ix {D : DC} {Wx : WX} {a b : Expr} {pos : Pos} {da db : DE} (ha : VE D Wx a da) (hb : VE D Wx b db) (hs : plainIx b = true) : VE D Wx (.Subscript a b pos) (dOp2 fIx da db) := by
  obtain ⟨ta, pa, sa⟩ := ha
  obtain ⟨tb, pb, sb⟩ := hb
  exact ⟨_, fun X c => pe_ix (by rw [← c.K]; exact ix_seq) (pa X c) (pb X c) (plainIx_of hs), fun B E hK i => sim_op2 hK.symm (sa B E hK i) (sb B E hK i) sim_ix⟩
end VM

set_option Elab.async false
set_option linter.all false
/-! VM7: calls of the text's own defs, statements. -/
namespace VM
open PySem PySem.Spec L2
open PyProof.Rows hiding St

/-- a call's outcome, at the caller -/
def dCallF (f : CF) (a : DA) : DE := fun τ S => (a τ S).bind fun rs τ S => (R.of (valAll rs) τ S).bind fun ws τ S => match f ws S with
  | .ok r S' => .ok r τ S'
  | .ex Cn S' => .ex Cn τ S'
  | .no => .no
section
variable {B : Base} {E : XW} {D : DC} {Wx : WX}
theorem sim_callF {f : CF} {n : Nat} {t : TA} {d : DA} (iw : Imp B E Wx) (hn : ∀ ws S, f ws S ≠ .no → ws.length = n) (s : SimA B E t d) : Sim B E (tCallS (spW B.K f n) (WE Wx) t) (dCallF f d) := by
  intro F ρ stk vstk τ σ S H C Q hl h k
  refine s F ρ stk vstk τ σ S H C _ hl h (k.bind.mono fun rs τ1 S1 k vs H1 F1 ρ1 C1 e1 h1 => ?_)
  obtain ⟨ws, ew, k⟩ := k.bind.of
  have rp := vals_all (tops e1 h1) ew
  have h2 := popAll e1 h1
  have ne : f ws S1 ≠ .no := fun z => by rw [z] at k; exact k
  refine ⟨ρ1, F1, S1, ws, C1, hn ws S1 ne, rp, h2.cel, h2.cnd, h2.cF, h2.cH, h2.fT, ?_⟩
  cases e : f ws S1 with
  | no => exact ne e
  | ok r S' =>
    rw [e] at k
    exact fun v H' F' ρ' C' q => k v H' F' ρ' C' (h2.call q)
  | ex Cn S' =>
    rw [e] at k
    exact fun H' F' ρ' C' q => iw Cn τ1 S' F' ρ' C' σ H' (StR.pops stk vstk hl (h2.call q)) k
theorem ve_callF {f : CF} {n : Nat} {x : Str} {p pos : Pos} {e : Expr} {es : List Expr} {d : DA} (o : DOk D) (hc : D.calm = true) (hx : D.fns x = some (f, n)) (hg : D.sc.names.lookup x = some .globalImplicit)
    (ha : VA D Wx (e :: es) d) (hdb : (x == ("__debug__" : Str)) = false) (hs : ((e :: es).all notStar) = true) : VE D Wx (.Call (.Name x p) (e :: es) [] pos) (dCallF f d) := by
  obtain ⟨t, pa, s⟩ := ha
  rw [List.all_cons, Bool.and_eq_true] at hs
  have hF := o.fns x f n hx
  obtain ⟨fa, fd, ps, hm, hk, hb, Fn⟩ := hF.ex
  refine ⟨tCallS (spW D.K f n) (WE Wx) t, fun X c => ?_, fun B E hK i => by rw [← hK]; exact sim_callF i hF.len (s B E hK i)⟩
  have Fn' : FnOk X.prog X.w X.K X.mg X.base (L2.CX X.prog X.w) D.k fa fd ps (spW D.K f n) := by rw [c.prog, c.w, c.K, c.mg, c.base]; exact Fn
  exact pe_callS (E := WE Wx) Fn' (c.room hc) (c.gl hg) (by rw [c.mg]; exact hm) (by rw [c.K]; exact hk) (by rw [c.K]; exact hb) (fun σ => passAt c.tk σ) (pa X c) hdb (starEach_cons hs.1) (backTo_none (starEach_none hs.2))
theorem ve_callF0 {f : CF} {n : Nat} {x : Str} {p pos : Pos} (o : DOk D) (hc : D.calm = true) (hx : D.fns x = some (f, n)) (hg : D.sc.names.lookup x = some .globalImplicit) (hdb : (x == ("__debug__" : Str)) = false) :
    VE D Wx (.Call (.Name x p) [] [] pos) (dCallF f dNil) := by
  have hF := o.fns x f n hx
  obtain ⟨fa, fd, ps, hm, hk, hb, Fn⟩ := hF.ex
  refine ⟨tCallS (spW D.K f n) (WE Wx) tNil, fun X c => ?_, fun B E hK i => by rw [← hK]; exact sim_callF i hF.len fun F ρ stk vstk τ σ S H C Q hl h k => k [] H F ρ C rfl h⟩
  have Fn' : FnOk X.prog X.w X.K X.mg X.base (L2.CX X.prog X.w) D.k fa fd ps (spW D.K f n) := by rw [c.prog, c.w, c.K, c.mg, c.base]; exact Fn
  refine ⟨fun pins s σ H Q I h => wpAny_Call_Name_kw (ld_glob I (c.gl hg) (by rw [c.mg]; exact hm) ?_ hdb)⟩
  exact PySem.W.callWith_K0 I.kIn (by rw [c.K]; exact hk) (run_fnS (E := WE Wx) (us := []) Fn' (c.room hc) (by rw [c.K]; exact hb) (passAt c.tk σ) I .nil h)

/-! ### statements -/
/-- what is wanted of a statement's outcome -/
def OP (B : Base) (E : XW) (D : Ends) (o : O) : Prop := match o with
  | .nx τ S => ∀ σ H F ρ C, StR B F ρ τ σ S H C → D.nx σ H
  | .rt r τ S => ∀ v σ H F ρ C, StR B F ρ (r :: τ) (some v :: σ) S H C → D.rt v H
  | .bk τ S => ∀ σ H F ρ C, StR B F ρ τ σ S H C → D.bk σ H
  | .ct τ S => ∀ σ H F ρ C, StR B F ρ τ σ S H C → D.ct σ H
  | .ex C τ S => E C τ S
  | .no => False
def SimS (B : Base) (E : XW) (t : TS) (d : DS) : Prop := ∀ F ρ τ σ S H C (D : Ends), StR B F ρ τ σ S H C → OP B E D (d τ S) → t D σ H
def VS (D : DC) (Wx : WX) (st : Stmt) (d : DS) : Prop := ∃ t, (∀ X, CxOk D Wx X → PS X st t) ∧ ∀ B E, B.K = D.K → Imp B E Wx → SimS B E t d
def VSs (D : DC) (Wx : WX) (st : List Stmt) (d : DS) : Prop := ∃ t, (∀ X, CxOk D Wx X → PSs X st t) ∧ ∀ B E, B.K = D.K → Imp B E Wx → SimS B E t d
/-- an expression's outcome in a statement -/
def R.thenS {α : Type} (r : R α) (f : α → Tau → Store → O) : O := match r with
  | .ok a τ S => f a τ S
  | .ex C τ S => .ex C τ S
  | .no => .no
theorem OP.thenS {α : Type} {r : R α} {f : α → Tau → Store → O} {D : Ends} (h : OP B E D (r.thenS f)) : RP r (fun a τ S => OP B E D (f a τ S)) E := by
  cases r with
  | ok a τ S => exact h
  | ex C τ S => exact h
  | no => exact h
/-- .. with nothing on the stack -/
def Sim0 (B : Base) (E : XW) (t0 : TE) (d : DE) : Prop := ∀ F ρ τ σ S H C (Q : VK), StR B F ρ τ σ S H C → RP (d τ S) (Post B [] [] σ Q) E → t0 σ H Q
def VE0 (D : DC) (Wx : WX) (e : Expr) (d : DE) : Prop := ∃ t0, (∀ X, CxOk D Wx X → PE X e t0) ∧ ∀ B E, B.K = D.K → Imp B E Wx → Sim0 B E t0 d
theorem VE.ve0 {e : Expr} {d : DE} (h : VE D Wx e d) : VE0 D Wx e d := by
  obtain ⟨t, p, s⟩ := h
  exact ⟨t, p, fun B E hK i F ρ τ σ S H C Q h k => s B E hK i F ρ [] [] τ σ S H C Q rfl h k⟩
theorem SimS.ex {t0 : TE} {d : DE} (s : Sim0 B E t0 d) {F ρ τ σ S H C} (h : StR B F ρ τ σ S H C) {P : Sl → Tau → Store → Prop} (k : RP (d τ S) P E) {Q : VK} (fin : ∀ r τ' S' v H' F' ρ' C', P r τ' S' → StR B F' ρ' (r :: τ') (some v :: σ) S' H' C' → Q v H') : t0 σ H Q :=
  s F ρ τ σ S H C Q h (k.mono fun r τ' S' p v H' F' ρ' C' h' => fin r τ' S' v H' F' ρ' C' p h')
theorem SimS.tst {t0 : TT} {d : DT} (s : SimT B E t0 d) {F ρ τ σ S H C} (h : StR B F ρ τ σ S H C) {P : Bool → Tau → Store → Prop} (k : RP (d τ S) P E) {Q : Bool → Hp → Prop} (fin : ∀ b τ' S' H' F' ρ' C', P b τ' S' → StR B F' ρ' τ' σ S' H' C' → Q b H') : t0 σ H Q :=
  s F ρ [] [] τ σ S H C Q rfl h (k.mono fun r τ' S' p H' F' ρ' C' h' => fin r τ' S' H' F' ρ' C' p h')
def dSkip : DS := fun τ S => .nx τ S
def dSeq (a b : DS) : DS := fun τ S => match a τ S with
  | .nx τ S => b τ S
  | o => o
theorem vs_pass {pos : Pos} : VS D Wx (.Pass pos) dSkip := ⟨_, fun X c => ps_pass, fun B E hK i F ρ τ σ S H C D h k => k σ H F ρ C h⟩
theorem vs_break {pos : Pos} : VS D Wx (.Break pos) (fun τ S => .bk τ S) := ⟨_, fun X c => ps_break, fun B E hK i F ρ τ σ S H C D h k => k σ H F ρ C h⟩
theorem vs_continue {pos : Pos} : VS D Wx (.Continue pos) (fun τ S => .ct τ S) := ⟨_, fun X c => ps_continue, fun B E hK i F ρ τ σ S H C D h k => k σ H F ρ C h⟩
theorem vss_nil : VSs D Wx [] dSkip := ⟨_, fun X c => pss_nil, fun B E hK i F ρ τ σ S H C D h k => k σ H F ρ C h⟩
theorem vss_cons {st : Stmt} {rest : List Stmt} {a b : DS} (h1 : VS D Wx st a) (h2 : VSs D Wx rest b) : VSs D Wx (st :: rest) (dSeq a b) := by
  obtain ⟨t, p, s⟩ := h1
  obtain ⟨u, q, s2⟩ := h2
  refine ⟨_, fun X c => pss_cons (p X c) (q X c), fun B E hK i F ρ τ σ S H C D h k => ?_⟩
  refine s B E hK i F ρ τ σ S H C { D with nx := u D } h ?_
  unfold dSeq at k
  cases e : a τ S with
  | nx τ1 S1 =>
    rw [e] at k
    exact fun σ1 H1 F1 ρ1 C1 h1 => s2 B E hK i F1 ρ1 τ1 σ1 S1 H1 C1 D h1 k
  | rt r τ1 S1 => rw [e] at k; exact k
  | bk τ1 S1 => rw [e] at k; exact k
  | ct τ1 S1 => rw [e] at k; exact k
  | ex Cn τ1 S1 => rw [e] at k; exact k
  | no => rw [e] at k; exact k
/-- an expression alone -/
def dExpr (d : DE) : DS := fun τ S => (d τ S).thenS fun _ τ S => .nx τ S
theorem vs_expr {e : Expr} {d : DE} {pos : Pos} (h : VE0 D Wx e d) (hs : ∀ env, swapsWith e none pos.line env = pure false) : VS D Wx (.Expr e pos) (dExpr d) := by
  obtain ⟨t, p, s⟩ := h
  refine ⟨_, fun X c => ps_expr (p X c) (hs _), fun B E hK i F ρ τ σ S H C D h k => ?_⟩
  exact SimS.ex (s B E hK i) h k.thenS fun r τ' S' v H' F' ρ' C' p h' => p σ H' F' ρ' C' (StR.pop h')
/-- return -/
def Sl.out : Sl → Option Sl
  | .val w => some (.val w)
  | .own m => some (.own m)
  | _ => none
def dRet (d : DE) : DS := fun τ S => (d τ S).thenS fun r τ S => match r.out with
  | some r => .rt r τ S
  | none => .no
theorem out_eq {r r' : Sl} (h : r.out = some r') : r' = r := by
  cases r <;> cases h <;> rfl
theorem vs_ret {e : Expr} {d : DE} {pos : Pos} (h : VE0 D Wx e d) : VS D Wx (.Return (some e) pos) (dRet d) := by
  obtain ⟨t, p, s⟩ := h
  refine ⟨_, fun X c => ps_ret (p X c), fun B E hK i F ρ τ σ S H C D h k => ?_⟩
  refine SimS.ex (s B E hK i) h k.thenS fun r τ' S' v H' F' ρ' C' p h' => ?_
  cases e : r.out with
  | none => rw [e] at p; exact p.elim
  | some r' =>
    rw [e] at p
    have er := out_eq e
    subst er
    exact p v σ H' F' ρ' C' h'
def dRetN : DS := fun τ S => .rt (.val .non) τ S
theorem vs_retN {pos : Pos} : VS D Wx (.Return none pos) dRetN := ⟨_, fun X c => ps_retN, fun B E hK i F ρ τ σ S H C D h k => k _ σ H F ρ C (h.push repNon)⟩
/-- if -/
def dIfS (c : DT) (a b : DS) : DS := fun τ S => (c τ S).thenS fun k τ S => match k with
  | true => a τ S
  | false => b τ S
theorem vs_if {c : Expr} {a b : List Stmt} {pos : Pos} {dc : DT} {da db : DS} (hc : VT D Wx c dc) (ha : VSs D Wx a da) (hb : VSs D Wx b db) : VS D Wx (.If c a b pos) (dIfS dc da db) := by
  obtain ⟨t, p, s⟩ := hc
  obtain ⟨ta, pa, sa⟩ := ha
  obtain ⟨tb, pb, sb⟩ := hb
  refine ⟨_, fun X c => ps_if (p X c) (pa X c) (pb X c), fun B E hK i F ρ τ σ S H C D h k => ?_⟩
  refine SimS.tst (s B E hK i) h k.thenS fun b τ' S' H' F' ρ' C' p h' => ?_
  cases b with
  | true => rw [if_pos rfl]; exact sa B E hK i F' ρ' τ' σ S' H' C' D h' p
  | false => rw [if_neg Bool.false_ne_true]; exact sb B E hK i F' ρ' τ' σ S' H' C' D h' p
/-- a name is set to the entry on top -/
theorem StR.assign {F : Addr → Prop} {ρ : Nat → Addr} {r : Sl} {v : V} {τ : Tau} {σ : St} {S : Store} {H : Hp} {C : List Addr} (i : Nat) (h : StR B F ρ (r :: τ) (some v :: σ) S H C) : StR B F ρ (τ.set i r) (σ.set i (some v)) S H C := by
  have len : τ.length = σ.length := by have := h.len; simpa using this
  have at_ : ∀ {j : Nat} {sl : Sl} {x : Option V}, (τ.set i r)[j]? = some sl → (σ.set i (some v))[j]? = some x → (j = i ∧ sl = r ∧ x = some v) ∨ (j ≠ i ∧ τ[j]? = some sl ∧ σ[j]? = some x) := fun {j sl x} e1 e2 => by
    by_cases q : i = j
    · subst q
      have hi : i < τ.length := by
        by_cases z : i < τ.length
        · exact z
        · rw [List.getElem?_eq_none (by rw [List.length_set]; omega)] at e1; cases e1
      rw [List.getElem?_set_self hi] at e1
      rw [List.getElem?_set_self (by omega)] at e2
      exact .inl ⟨rfl, (Option.some.inj e1).symm, (Option.some.inj e2).symm⟩
    · rw [List.getElem?_set_ne q] at e1 e2
      exact .inr ⟨fun z => q z.symm, e1, e2⟩
  refine ⟨by rw [List.length_set, List.length_set]; exact len, fun j sl x e1 e2 => ?_, fun j k m m' a e1 e2 e3 e4 => ?_, fun j m a e1 e2 => ?_, fun j m a e1 e2 => ?_, fun j m a e1 e2 => ?_, h.cel, h.cnd, h.cF, h.cH, h.fT, h.keep, h.fF, h.fN, h.cN, fun j m a e1 e2 => ?_, h.rho, h.nx⟩
  · rcases at_ e1 e2 with ⟨_, rfl, rfl⟩ | ⟨_, q1, q2⟩
    · exact h.ent 0 _ _ rfl rfl
    · exact h.ent (j + 1) sl x q1 q2
  · rcases at_ e1 e2 with ⟨rfl, e, e'⟩ | ⟨n1, q1, q2⟩
    · rcases at_ e3 e4 with ⟨rfl, _, _⟩ | ⟨n2, q3, q4⟩
      · rfl
      · have := h.uniq 0 (k + 1) m m' a (by rw [e]; rfl) (by rw [e']; rfl) q3 q4
        omega
    · rcases at_ e3 e4 with ⟨rfl, e, e'⟩ | ⟨n2, q3, q4⟩
      · have := h.uniq (j + 1) 0 m m' a q1 q2 (by rw [e]; rfl) (by rw [e']; rfl)
        omega
      · have := h.uniq (j + 1) (k + 1) m m' a q1 q2 q3 q4
        omega
  · rcases at_ e1 e2 with ⟨_, e, e'⟩ | ⟨_, q1, q2⟩
    · exact h.nF 0 m a (by rw [e]; rfl) (by rw [e']; rfl)
    · exact h.nF (j + 1) m a q1 q2
  · rcases at_ e1 e2 with ⟨_, e, e'⟩ | ⟨_, q1, q2⟩
    · exact h.nC 0 m a (by rw [e]; rfl) (by rw [e']; rfl)
    · exact h.nC (j + 1) m a q1 q2
  · rcases at_ e1 e2 with ⟨_, e, e'⟩ | ⟨_, q1, q2⟩
    · exact h.pC 0 m a (by rw [e]; rfl) (by rw [e']; rfl)
    · exact h.pC (j + 1) m a q1 q2
  · rcases at_ e1 e2 with ⟨_, e, e'⟩ | ⟨_, q1, q2⟩
    · exact h.oN 0 m a (by rw [e]; rfl) (by rw [e']; rfl)
    · exact h.oN (j + 1) m a q1 q2
/-- what a target does with the entry on top -/
abbrev DG := Sl → Tau → Store → O
def SimG (B : Base) (E : XW) (g : TG) (d : DG) : Prop := ∀ F ρ r v τ σ S H C (D : Ends), StR B F ρ (r :: τ) (some v :: σ) S H C → OP B E D (d r τ S) → g v σ H D.nx
def VG (D : DC) (Wx : WX) (tg : Expr) (d : DG) : Prop := ∃ g, (∀ X, CxOk D Wx X → PG X tg g) ∧ ∀ B E, B.K = D.K → Imp B E Wx → SimG B E g d
def gSet (i : Nat) : DG := fun r τ S => match r.out with
  | some r => .nx (τ.set i r) S
  | none => .no
/-- a name of this block that is stored to -/
def locC (D : DC) (x : Str) : Bool := match D.sc.names.lookup x with
  | some .local => true
  | some .cell => D.fnn x
  | _ => false
theorem loc_of {X : Cx} {x : Str} (c : CxOk D Wx X) (h : locC D x = true) : Loc X.env.scope x ∧ (X.fn x = true ∨ X.env.scope.names.lookup x = some .local) := by
  unfold locC at h
  rw [← c.sc] at h
  split at h
  · rename_i e
    exact ⟨.inl e, .inr e⟩
  · rename_i e
    exact ⟨.inr e, .inl (c.fn x h)⟩
  · cases h
theorem vg_name {i : Nat} {x : Str} {pos : Pos} (o : DOk D) (hi : D.N[i]? = some x) (hx : locC D x = true) : VG D Wx (.Name x pos) (gSet i) := by
  refine ⟨_, fun X c => pg_name (by rw [c.N]; exact o.nd) (by rw [c.N]; exact hi) (loc_of c hx).1 (loc_of c hx).2, fun B E hK iw F ρ r v τ σ S H C D h k => ?_⟩
  unfold gSet at k
  cases e : r.out with
  | none => rw [e] at k; exact k.elim
  | some r' =>
    rw [e] at k
    have er := out_eq e
    subst er
    exact k _ H F ρ C (StR.assign i h)
def dAsg (d : DE) (g : DG) : DS := fun τ S => (d τ S).thenS fun r τ S => g r τ S
theorem vs_asg {tg e : Expr} {d : DE} {g : DG} {pos : Pos} (he : VE0 D Wx e d) (hg : VG D Wx tg g) (hs : ∀ env : Env, env.scope = D.sc → env.scope.kind = .function → swapsWithSole [tg] e pos.line env = pure false) (hw : ∀ env, swappedStores [tg] e env = pure none)
    (h1 : ∀ env, (assignEach [tg] env).map (·.2) = [assign tg env]) : VS D Wx (.Assign [tg] e pos) (dAsg d g) := by
  obtain ⟨t, p, s⟩ := he
  obtain ⟨u, q, s2⟩ := hg
  refine ⟨_, fun X c => ps_asg (p X c) (q X c) (hs _ c.sc c.kind) (hw _) (h1 _), fun B E hK i F ρ τ σ S H C D h k => ?_⟩
  exact SimS.ex (s B E hK i) h k.thenS fun r τ' S' v H' F' ρ' C' p h' => s2 B E hK i F' ρ' r v τ' σ S' H' C' D h' p
end
end VM

set_option Elab.async false
set_option linter.all false
/-! VM8: methods of what is built in; what changes an owned list. -/
namespace VM
open PySem PySem.Spec L2
open PyProof.Rows hiding St

def plainBase : Expr → Bool
  | .Call _ [] [] _ => false
  | _ => true
theorem ab_plain {o : Expr} {name : Str} {env : Env} {whole : Sem Value} (h : plainBase o = true) : attributeBase o name env whole = whole := by
  cases o with
  | Call f a k p =>
    cases a with
    | nil => cases k with
      | nil => cases h
      | cons _ _ => cases f <;> rfl
    | cons _ _ => cases f <;> rfl
  | _ => rfl

section
variable {B : Base} {E : XW} {D : DC} {Wx : WX}
/-- an owned entry is changed -/
theorem StR.mut {F : Addr → Prop} {ρ : Nat → Addr} {gs : List Sl} {gv : List (Option V)} {S : Store} {H : Hp} {C : List Addr} {i : Nat} {m m' : MO} {a : Addr} {o' : HO} (h : StR B F ρ gs gv S H C) (e1 : gs[i]? = some (.own m)) (e2 : gv[i]? = some (some (.ref a)))
    (np : ∀ (j : Nat) (w : W), gs[j]? ≠ some (Sl.pk w)) (r : OwnR (gOf B F ρ S (upd H a o')) m' a) : StR B F ρ (gs.set i (.own m')) gv S (upd H a o') C := by
  obtain ⟨a', ev, own⟩ := h.ent i _ _ e1 e2
  cases ev
  have nF := h.nF i m a e1 e2
  have nC := h.nC i m a e1 e2
  obtain ⟨o0, eo, im⟩ := own.isM
  have le : (gOf B F ρ S H).le (gOf B F ρ S (upd H a o')) := ⟨rfl, Nat.le_refl _, fun _ _ => rfl, fun _ q => q, fun b o e st => by
    by_cases q : b = a
    · subst q
      have e : H b = some o := e
      have eo : H b = some o0 := eo
      rw [e] at eo
      cases eo
      exact (nF (st.notM im)).elim
    · show upd H a o' b = some o
      rw [upd_ne q]; exact e⟩
  have hi : i < gs.length := (List.getElem?_eq_some_iff.mp e1).1
  have other : ∀ {j : Nat} {sl : Sl}, (gs.set i (.own m'))[j]? = some sl → (j = i ∧ sl = .own m') ∨ (j ≠ i ∧ gs[j]? = some sl) := fun {j sl} e => by
    by_cases q : i = j
    · subst q
      rw [List.getElem?_set_self hi] at e
      exact .inl ⟨rfl, (Option.some.inj e).symm⟩
    · rw [List.getElem?_set_ne q] at e
      exact .inr ⟨fun z => q z.symm, e⟩
  have ownO : ∀ {j : Nat} {m1 : MO}, (gs.set i (.own m'))[j]? = some (.own m1) → ∃ m2, gs[j]? = some (.own m2) := fun {j m1} e => by
    rcases other e with ⟨rfl, _⟩ | ⟨_, q⟩
    · exact ⟨_, e1⟩
    · exact ⟨_, q⟩
  have ne : ∀ {b : Addr}, b ≠ a → upd H a o' b = H b := fun q => upd_ne q
  refine ⟨by rw [List.length_set]; exact h.len, fun j sl v q1 q2 => ?_, fun j k m1 m2 b q1 q2 q3 q4 => ?_, fun j m1 b q1 q2 => ?_, fun j m1 b q1 q2 => ?_, fun j w b q1 q2 => ?_, h.cel.le le fun b hb o q => ?_, h.cnd, h.cF, fun b hb => ?_, fun b hb => ?_, fun b o q n => ?_, h.fF, h.fN, h.cN, fun j m1 b q1 q2 => ?_, h.rho, h.nx⟩
  · rcases other q1 with ⟨rfl, rfl⟩ | ⟨nj, q⟩
    · rw [e2] at q2
      cases q2
      exact ⟨a, rfl, r⟩
    · refine (h.ent j sl v q q2).le le fun b o ev k z => ?_
      rcases k with ⟨m1, rfl⟩ | ⟨w, rfl⟩
      · have : b ≠ a := fun z => by
          subst z
          rw [ev] at q2
          exact nj (h.uniq j i m1 m b q q2 e1 e2)
        show upd H a o' b = some o
        rw [upd_ne this]; exact z
      · exact (np j w q).elim
  · obtain ⟨x1, y1⟩ := ownO q1
    obtain ⟨x2, y2⟩ := ownO q3
    exact h.uniq j k x1 x2 b y1 q2 y2 q4
  · obtain ⟨x1, y1⟩ := ownO q1
    exact h.nF j x1 b y1 q2
  · obtain ⟨x1, y1⟩ := ownO q1
    exact h.nC j x1 b y1 q2
  · rcases other q1 with ⟨_, z⟩ | ⟨_, z⟩
    · cases z
    · exact h.pC j w b z q2
  · show upd H a o' b = some o
    rw [ne (fun z => nC (by rw [← z]; exact hb))]; exact q
  · rw [ne (fun z => nC (by rw [← z]; exact hb))]; exact h.cH b hb
  · rw [ne (fun z => nF (by rw [← z]; exact hb))]; exact h.fT b hb
  · have : b ≠ a := fun z => by
      subst z
      rcases h.oN i m b e1 e2 with y | y
      · exact n y
      · rw [y] at q; cases q
    rw [ne this]; exact h.keep b o q n
  · obtain ⟨x1, y1⟩ := ownO q1
    exact h.oN j x1 b y1 q2
def Sl.isPk : Sl → Bool
  | .pk _ => true
  | _ => false
theorem no_pk {τ : Tau} (h : (τ.any Sl.isPk) = false) : ∀ (j : Nat) (w : W), τ[j]? ≠ some (Sl.pk w) := fun j w e => by
  have := List.any_eq_false.mp h (.pk w) (List.mem_of_getElem? e)
  exact this rfl
/-- what a method does to an owned list or dict -/
abbrev MF := MO → List Sl → Option (W × MO)
def SimM (K : PySem.W.Frag) (T : String) (f : MF) (r : V → List V → Hp → VK → Prop) : Prop :=
  ∀ (g : G) (m : MO) (a : Addr) (rs : List Sl) (vs : List V) (w : W) (m' : MO) (Q : VK), g.K = K → OwnR g m a → Paired (fun sl v => ER g sl (some v)) rs vs → f m rs = some (w, m') →
    (∀ o, (∀ b o1, g.H b = some o1 → Stable g.F b o1 → upd g.H a o b = some o1) → g.le (g.at_ (upd g.H a o))) → ¬ g.F a →
    (∀ v o, OwnR (g.at_ (upd g.H a o)) m' a → Rep (g.at_ (upd g.H a o)) w v → Q v (upd g.H a o)) → r (.ref a) vs g.H Q
def MO.ty : MO → String
  | .lst _ => "list"
  | .dic _ _ => "dict"
theorem OwnR.ty {g : G} {m : MO} {a : Addr} (h : OwnR g m a) : tyV g.K m.ty (.ref a) g.H := by
  cases m with
  | lst xs =>
    obtain ⟨vs, q, _⟩ := h
    exact .inl ⟨rfl, vs, .inl (.inl q)⟩
  | dic ks xs =>
    refine .inr (.inr (.inl ⟨rfl, ?_⟩))
    rcases h with ⟨kvs, h1, _⟩ | ⟨kvs, h1, _⟩
    · exact .inl ⟨kvs, h1⟩
    · exact .inr ⟨kvs, h1⟩
/-- the heap changes at an owned address alone -/
theorem le_own {g : G} {m : MO} {a : Addr} (h : OwnR g m a) (nF : ¬ g.F a) (o : HO) : g.le (g.at_ (upd g.H a o)) := by
  obtain ⟨o0, eo, im⟩ := h.isM
  refine ⟨rfl, Nat.le_refl _, fun _ _ => rfl, fun _ q => q, fun b o1 e st => ?_⟩
  by_cases q : b = a
  · subst q
    rw [e] at eo
    cases eo
    exact (nF (st.notM im)).elim
  · show upd g.H a o b = some o1
    rw [upd_ne q]; exact e
def dMut (T : String) (f : MF) (i : Nat) (args : DA) : DE := fun τ S => match τ[i]? with
  | some (.own m0) => if m0.ty = T then (args τ S).bind fun rs τ S => (match τ[i]? with
      | some (.own m) => if (τ.any Sl.isPk) = false then (R.of (f m rs) τ S).bind fun p τ S => .ok (.val p.1) (τ.set i (.own p.2)) S else .no
      | _ => .no) else .no
  | _ => .no
theorem sim_mut {K : PySem.W.Frag} {T : String} {f : MF} {r : V → List V → Hp → VK → Prop} {t : TA} {d : DA} {i : Nat} (hK : K = B.K) (hf : SimM K T f r) (s : SimA B E t d) : Sim0 B E (tBM K T r (tVar i) t) (dMut T f i d) := by
  intro F ρ τ σ S H C Q h k
  unfold dMut at k
  cases e0 : τ[i]? with
  | none => rw [e0] at k; exact k.elim
  | some sl =>
  rw [e0] at k
  cases sl with
  | no => exact k.elim
  | pk _ => exact k.elim
  | val _ => exact k.elim
  | own m0 =>
  have k : RP (if m0.ty = T then _ else _) _ _ := k
  split at k
  · rename_i hT
    obtain ⟨v, e2, a, rfl, own⟩ := slot_val (stk := []) (vstk := []) rfl h e0
    refine ⟨_, e2, by subst hK; rw [← hT]; exact own.ty, ?_⟩
    refine s F ρ [] [] τ σ S H C _ rfl h (k.bind.mono fun rs τ1 S1 k vs H1 F1 ρ1 C1 e1 h1 => ?_)
    have hp := tops e1 h1
    have h1 := popAll e1 h1
    have h1 : StR B F1 ρ1 τ1 σ S1 H1 C1 := h1
    cases e3 : τ1[i]? with
    | none => rw [e3] at k; exact k.elim
    | some sl =>
    rw [e3] at k
    cases sl with
    | no => exact k.elim
    | pk _ => exact k.elim
    | val _ => exact k.elim
    | own m =>
    have k : RP (if (τ1.any Sl.isPk) = false then _ else _) _ _ := k
    split at k
    · rename_i hpk
      obtain ⟨⟨w, m'⟩, e4, k⟩ := k.bind.of
      obtain ⟨b, eb, own1⟩ := h1.ent i _ _ e3 e2
      cases eb
      have nF := h1.nF i m a e3 e2
      refine hf (gOf B F1 ρ1 S1 H1) m a rs vs w m' Q hK.symm own1 hp e4 (fun o q => le_own own1 nF o) nF fun v o r1 r2 => ?_
      have h2 := h1.mut e3 e2 (no_pk hpk) r1
      exact k v _ F1 ρ1 C1 (h2.push r2)
    · exact k.elim
  · exact k.elim
def callC (apos cpos : Pos) (es : List Expr) : Bool := es.all notStar && decide (es.length + 1 < 30) && (apos.endLine == cpos.line)
theorem backTo_all {pos : Pos} {l : List (Bool × Sem Value)} (h : ∀ x ∈ l, x.1 = false) : (backTo pos l).all (fun x => !x.1) = true := by
  rw [List.all_eq_true]
  intro x hx
  unfold backTo at hx
  obtain ⟨y, hy, rfl⟩ := List.mem_map.mp hx
  simp [h y hy]
theorem few_of {apos cpos : Pos} {es : List Expr} {env : Env} (h : callC apos cpos es = true) : ((backTo cpos (starEach es env)).all (fun x => !x.1) && (backToKw cpos (keywordEach [] env)).all (fun x => x.1.isSome)
      && decide (es.length + ([] : List Keyword).length + (if ([] : List Keyword).isEmpty then 0 else 1) < 30)) = true := by
  unfold callC at h
  rw [Bool.and_eq_true, Bool.and_eq_true, decide_eq_true_eq] at h
  obtain ⟨⟨h1, h2⟩, _⟩ := h
  rw [Bool.and_eq_true, Bool.and_eq_true]
  refine ⟨⟨backTo_all (starEach_none h1), rfl⟩, ?_⟩
  rw [decide_eq_true_eq]
  show es.length + 0 + 0 < 30
  omega
theorem line_of {apos cpos : Pos} {es : List Expr} (h : callC apos cpos es = true) : (apos.endLine == cpos.line) = true := by
  unfold callC at h
  rw [Bool.and_eq_true] at h
  exact h.2
theorem ns_of {apos cpos : Pos} {e : Expr} {es : List Expr} (h : callC apos cpos (e :: es) = true) : notStar e = true ∧ (es.all notStar) = true := by
  unfold callC at h
  rw [Bool.and_eq_true, Bool.and_eq_true, List.all_cons, Bool.and_eq_true] at h
  exact h.1.1
theorem ve_mut {T : String} {id : String} {f : MF} {r : V → List V → Hp → VK → Prop} {i : Nat} {x name : Str} {px apos cpos : Pos} {e : Expr} {es : List Expr} {d : DA} (hf : SimM D.K T f r)
    (pa : PlainAttrs T) (slot : Slot T name id) (hty : typeOf (.builtin id) = pure (.type "method_descriptor")) (hm : ∀ X, CxOk D Wx X → MtR X id r) (hx : ∀ X, CxOk D Wx X → PE X (.Name x px) (tVar i)) (ha : VA D Wx (e :: es) d)
    (hs : callC apos cpos (e :: es) = true) : VE0 D Wx (.Call (.Attribute (.Name x px) name apos) (e :: es) [] cpos) (dMut T f i d) := by
  obtain ⟨t, pt, s⟩ := ha
  exact ⟨tBM D.K T r (tVar i) t, fun X c => by rw [← c.K]; exact pe_bm pa slot hty (hm X c) (hx X c) (pt X c) rfl (few_of hs) (line_of hs) (starEach_cons (ns_of hs).1) (backTo_none (starEach_none (ns_of hs).2)), fun B E hK iw => sim_mut hK.symm hf (s B E hK iw)⟩
theorem sim_mut0 {K : PySem.W.Frag} {T : String} {f : MF} {r : V → List V → Hp → VK → Prop} {i : Nat} (hK : K = B.K) (hf : SimM K T f r) : Sim0 B E (tBM0 K T r (tVar i)) (dMut T f i dNil) := by
  intro F ρ τ σ S H C Q h k
  have h0 := sim_mut (B := B) (E := E) (t := tNil) (d := dNil) (i := i) hK hf (fun F ρ stk vstk τ σ S H C Q hl h k => k [] H F ρ C rfl h) F ρ τ σ S H C Q h k
  obtain ⟨v, e, q1, q2⟩ := h0
  exact ⟨v, e, q1, q2⟩
theorem ve_mut0 {T : String} {id : String} {f : MF} {r : V → List V → Hp → VK → Prop} {i : Nat} {x name : Str} {px apos cpos : Pos} (hf : SimM D.K T f r)
    (pa : PlainAttrs T) (slot : Slot T name id) (hty : typeOf (.builtin id) = pure (.type "method_descriptor")) (hm : ∀ X, CxOk D Wx X → MtR X id r) (hx : ∀ X, CxOk D Wx X → PE X (.Name x px) (tVar i)) (hs : callC apos cpos [] = true) :
    VE0 D Wx (.Call (.Attribute (.Name x px) name apos) [] [] cpos) (dMut T f i dNil) :=
  ⟨tBM0 D.K T r (tVar i), fun X c => by rw [← c.K]; exact pe_bm0 pa slot hty (hm X c) (hx X c) rfl (line_of hs), fun B E hK iw => sim_mut0 hK.symm hf⟩
end
/-! list methods that change it -/
def mApp : MF
  | .lst xs, [.val w] => if xs.length < seqLine then some (.non, .lst (xs ++ [w])) else none
  | _, _ => none
theorem sim_append {K : PySem.W.Frag} : SimM K "list" mApp rAppend := by
  intro g m a rs vs w m' Q hK own hp e le nF h
  match m, rs, e with
  | .lst xs, [.val x], e =>
    cases hp with
    | cons r t =>
    cases t
    have e : (if xs.length < seqLine then some (W.non, MO.lst (xs ++ [x])) else none) = some (w, m') := e
    split at e
    · rename_i hz
      cases e
      obtain ⟨v', ev, rx⟩ := r
      cases ev
      obtain ⟨us, q, ru⟩ := own
      have l := fun o => le_own (g := g) (m := .lst xs) ⟨us, q, ru⟩ nF o
      exact ⟨a, us, _, rfl, rfl, q, by rw [← ru.length]; exact Nat.lt_of_lt_of_le hz seqLine_le, h _ _ ⟨_, upd_same, Reps.append (Reps.le (l _) _ _ ru) (Reps.cons (Rep.le (l _) _ _ rx) Reps.nil)⟩ repNon⟩
    · cases e
/-- list.extend by a list that is read -/
def rExtendX (K : PySem.W.Frag) : V → List V → Hp → VK → Prop := fun x vs H Q => ∃ l b xs zs, x = .ref l ∧ vs = [.ref b] ∧ H l = some (.lst xs) ∧ SqX K H b zs ∧ xs.length + zs.length ≤ sizeLine ∧ Q .non (upd H l (.lst (xs ++ zs)))
theorem mt_extendX {X : Cx} : MtR X "list.extend" (rExtendX X.K) := by
  rintro pl t τ K x vs v us P J rx rv ⟨p, q, xs, ys, rfl, rfl, hp, hq, sz, done⟩
  obtain rfl : v = .ref p := rx
  obtain ⟨u, rfl, ru⟩ := rv.one
  obtain rfl : u = .ref q := ru
  obtain ⟨_, as, n, r, la, ea⟩ := J.lstM hp
  obtain ⟨bs, m, r', eb, zb⟩ := Inv.listX J hq
  have lb := r'.length
  have fits : as.toArray.size + bs.toArray.size ≤ sizeLine := by simp only [List.size_toArray]; omega
  have short : ¬ (!as.toArray.isEmpty && Builtin.List.listTooLong (as.toArray.size + bs.toArray.size)) = true := by
    rw [notLongL fits]
    simp
  have z1 : as.toArray.size ≤ sizeLine := by omega
  have z2 : as.toArray.size + bs.toArray.size ≤ sizeLine + 1 := by omega
  have z : (xs ++ ys).length ≤ sizeLine := by rw [List.length_append]; exact sz
  exact call_meets F.slot_list_extend ⟨_, ea, rfl⟩ F.entry_list_extend (F.args_list_extend_2 _ _) (AutoSeq1.list_extend_list_list_0 p as.toArray n q bs.toArray m short z1 z2)
    ⟨ea, eb, .non, _, J.lset (its' := as ++ bs) hp ea (by simp) (r.append r') z, rfl, done⟩
def mExt : MF
  | .lst xs, [y] => (match y.rd with
    | some (.lst ys) => if xs.length + ys.length ≤ seqLine then some (.non, .lst (xs ++ ys)) else none
    | _ => none)
  | _, _ => none
theorem sim_extend {K : PySem.W.Frag} : SimM K "list" mExt (rExtendX K) := by
  intro g m a rs vs w m' Q hK own hp e le nF h
  subst hK
  match m, rs, e with
  | .lst xs, [y], e =>
    cases hp with
    | cons r t =>
    cases t
    have e : (match y.rd with
      | some (.lst ys) => if xs.length + ys.length ≤ seqLine then some (W.non, MO.lst (xs ++ ys)) else none
      | _ => none) = some (w, m') := e
    split at e
    · rename_i ys hy
      split at e
      · rename_i hz
        cases e
        obtain ⟨v, ev, ry⟩ := ER.rd r hy
        cases ev
        obtain ⟨b, zs, rfl, qb, rz⟩ := ry
        obtain ⟨us, q, ru⟩ := own
        have l := le_own (g := g) (m := .lst xs) ⟨us, q, ru⟩ nF (.lst (us ++ zs))
        exact ⟨a, b, us, zs, rfl, rfl, q, qb, by rw [← ru.length, ← rz.length]; exact Nat.le_trans hz seqLine_le, h _ _ ⟨_, upd_same, Reps.append (Reps.le l _ _ ru) (Reps.le l _ _ rz)⟩ repNon⟩
      · cases e
    · cases e
theorem reps_dropLast {g : G} : ∀ {ws : List W} {vs : List V}, Reps g ws vs → Reps g ws.dropLast vs.dropLast := fun {ws vs} h => by
  rw [List.dropLast_eq_take, List.dropLast_eq_take, ← h.length]
  exact h.take _
def mPop : MF
  | .lst xs, [] => (match xs[xs.length - 1]? with
    | some w => some (w, .lst xs.dropLast)
    | none => none)
  | _, _ => none
theorem sim_pop {K : PySem.W.Frag} : SimM K "list" mPop rPop := by
  intro g m a rs vs w m' Q hK own hp e le nF h
  match m, rs, e with
  | .lst xs, [], e =>
    cases hp
    have e : (match xs[xs.length - 1]? with
      | some w => some (w, MO.lst xs.dropLast)
      | none => none) = some (w, m') := e
    split at e
    · rename_i x hx
      cases e
      obtain ⟨us, q, ru⟩ := own
      obtain ⟨v, ev, rv⟩ := ru.get hx
      have l := le_own (g := g) (m := .lst xs) ⟨us, q, ru⟩ nF (.lst us.dropLast)
      exact ⟨a, us, v, rfl, rfl, q, by rw [← ru.length]; exact ev, h _ _ ⟨_, upd_same, reps_dropLast (Reps.le l _ _ ru)⟩ (Rep.le l _ _ rv)⟩
    · cases e
def mRev : MF
  | .lst xs, [] => some (.non, .lst xs.reverse)
  | _, _ => none
theorem Reps.reverse {g : G} : ∀ {ws : List W} {vs : List V}, Reps g ws vs → Reps g ws.reverse vs.reverse
  | [], _, h => by unfold Reps at h; subst h; exact Reps.nil
  | w :: ws, _, h => by
    unfold Reps at h
    obtain ⟨v, s, rfl, a, b⟩ := h
    rw [List.reverse_cons, List.reverse_cons]
    exact Reps.append (Reps.reverse b) (Reps.cons a Reps.nil)
theorem sim_reverse {K : PySem.W.Frag} : SimM K "list" mRev rReverse := by
  intro g m a rs vs w m' Q hK own hp e le nF h
  match m, rs, e with
  | .lst xs, [], e =>
    cases hp
    cases e
    obtain ⟨us, q, ru⟩ := own
    have l := le_own (g := g) (m := .lst xs) ⟨us, q, ru⟩ nF (.lst us.reverse)
    exact ⟨a, us, rfl, rfl, q, h _ _ ⟨_, upd_same, (Reps.le l _ _ ru).reverse⟩ repNon⟩

/-! ### methods that only read -/
section
variable {B : Base} {E : XW} {D : DC} {Wx : WX}
abbrev PF := W → List W → Option Sl
def tyW (T : String) : W → Bool
  | .lst _ => T == "list"
  | .dic _ _ => T == "dict"
  | .str _ => T == "str"
  | .int _ => T == "int"
  | _ => false
theorem tyV_of {g : G} {w : W} {v : V} {T : String} (h : RdW g w v) (e : tyW T w = true) : tyV g.K T v g.H := by
  cases w with
  | str x => obtain ⟨rfl, _⟩ := rdStr h; exact eq_of_beq e
  | int x => rw [rdInt h]; exact eq_of_beq e
  | lst xs =>
    obtain ⟨a, vs, rfl, q, _⟩ := h
    exact .inl ⟨eq_of_beq e, vs, q.sq⟩
  | dic ks xs =>
    obtain ⟨a, rfl, q⟩ := h
    refine .inr (.inr (.inl ⟨eq_of_beq e, ?_⟩))
    rcases q with ⟨kvs, h1, _⟩ | ⟨kvs, h1, _⟩
    · exact .inl ⟨kvs, h1⟩
    · exact .inr ⟨kvs, h1⟩
  | _ => cases e
def SimP (K : PySem.W.Frag) (f : PF) (r : V → List V → Hp → VK → Prop) : Prop := ∀ (g : G) (w : W) (ws : List W) (v : V) (vs : List V) (res : Sl) (Q : VK), g.K = K → RdW g w v → Paired (RdW g) ws vs → f w ws = some res → ResOk g res Q → r v vs g.H Q
def dMeth (T : String) (f : PF) (o : DE) (args : DA) : DE := fun τ S => (o τ S).bind fun x τ S => (R.of ((x.rdS S).filter (tyW T)) τ S).bind fun _ τ S => (args τ S).bind fun rs τ S => R.of ((x.rdS S).bind fun w => (rdAll S rs).bind (f w)) τ S
theorem filt {α : Type} {o : Option α} {p : α → Bool} {a : α} (h : o.filter p = some a) : o = some a ∧ p a = true := by
  cases o with
  | none => cases h
  | some b =>
    unfold Option.filter at h
    dsimp only at h
    split at h
    · rename_i q
      cases h
      exact ⟨rfl, q⟩
    · cases h
theorem sim_meth {T : String} {f : PF} {r : V → List V → Hp → VK → Prop} {to : TE} {dob : DE} {t : TA} {d : DA} {K : PySem.W.Frag} (hK : K = B.K) (hf : SimP K f r) (so : Sim B E to dob) (s : SimA B E t d) : Sim B E (tBM K T r to t) (dMeth T f dob d) := by
  intro F ρ stk vstk τ σ S H C Q hl h k
  refine so F ρ stk vstk τ σ S H C _ hl h (k.bind.mono fun x τ1 S1 k v H1 F1 ρ1 C1 h1 => ?_)
  obtain ⟨w, e, k⟩ := k.bind.of
  obtain ⟨ex, ty⟩ := filt e
  obtain ⟨v', ev, rv⟩ := (StR.top h1).rdS h1.cel ex
  cases ev
  refine ⟨by subst hK; exact tyV_of rv ty, ?_⟩
  refine s F1 ρ1 (x :: stk) (some v :: vstk) τ1 σ S1 H1 C1 _ (by simp [hl]) h1 (k.bind.mono fun rs τ2 S2 k vs H2 F2 ρ2 C2 e2 h2 => ?_)
  obtain ⟨res, e3, k⟩ := k.of
  obtain ⟨w2, ex2, e3⟩ := Option.bind_eq_some_iff.mp e3
  obtain ⟨ws, h3, h4⟩ := Option.bind_eq_some_iff.mp e3
  have hp := rds h2.cel (tops e2 h2) h3
  have h2 := popAll e2 h2
  obtain ⟨v2, ev, rv2⟩ := (StR.top h2).rdS h2.cel ex2
  cases ev
  exact hf (gOf B F2 ρ2 S2 H2) w2 ws v vs res Q hK.symm rv2 hp h4 fun u H3 e4 r4 => k u H3 F2 ρ2 C2 ((StR.pop h2).result e4 r4)
theorem ve_meth {T : String} {id : String} {f : PF} {r : V → List V → Hp → VK → Prop} {name : Str} {apos cpos : Pos} {o e : Expr} {es : List Expr} {dob : DE} {d : DA} (hf : SimP D.K f r)
    (pa : PlainAttrs T) (slot : Slot T name id) (hty : typeOf (.builtin id) = pure (.type "method_descriptor")) (hm : ∀ X, CxOk D Wx X → MtR X id r) (ho : VE D Wx o dob) (ha : VA D Wx (e :: es) d) (hbase : plainBase o = true)
    (hs : callC apos cpos (e :: es) = true) : VE D Wx (.Call (.Attribute o name apos) (e :: es) [] cpos) (dMeth T f dob d) := by
  obtain ⟨to, po, so⟩ := ho
  obtain ⟨t, pt, s⟩ := ha
  exact ⟨tBM D.K T r to t, fun X c => by rw [← c.K]; exact pe_bm pa slot hty (hm X c) (po X c) (pt X c) (ab_plain hbase) (few_of hs) (line_of hs) (starEach_cons (ns_of hs).1) (backTo_none (starEach_none (ns_of hs).2)), fun B E hK iw => sim_meth hK.symm hf (so B E hK iw) (s B E hK iw)⟩
theorem ve_meth0 {T : String} {id : String} {f : PF} {r : V → List V → Hp → VK → Prop} {name : Str} {apos cpos : Pos} {o : Expr} {dob : DE} (hf : SimP D.K f r)
    (pa : PlainAttrs T) (slot : Slot T name id) (hty : typeOf (.builtin id) = pure (.type "method_descriptor")) (hm : ∀ X, CxOk D Wx X → MtR X id r) (ho : VE D Wx o dob) (hbase : plainBase o = true)
    (hs : callC apos cpos [] = true) : VE D Wx (.Call (.Attribute o name apos) [] [] cpos) (dMeth T f dob dNil) := by
  obtain ⟨to, po, so⟩ := ho
  refine ⟨tBM0 D.K T r to, fun X c => by rw [← c.K]; exact pe_bm0 pa slot hty (hm X c) (po X c) (ab_plain hbase) (line_of hs), fun B E hK iw F ρ stk vstk τ σ S H C Q hl h k => ?_⟩
  exact sim_meth (B := B) (E := E) (t := tNil) (d := dNil) hK.symm hf (so B E hK iw) (fun F ρ stk vstk τ σ S H C Q hl h k => k [] H F ρ C rfl h) F ρ stk vstk τ σ S H C Q hl h k
end
end VM

set_option Elab.async false
set_option linter.all false
/-! VM9: loops. -/
namespace VM
open PySem PySem.Spec L2
open PyProof.Rows hiding St

/-! ### the ground is laid anew -/
def owns : List Sl → List (Option V) → List Addr
  | .own _ :: gs, some (.ref a) :: gv => a :: owns gs gv
  | _ :: gs, _ :: gv => owns gs gv
  | _, _ => []
theorem mem_owns : ∀ {gs : List Sl} {gv : List (Option V)} {a : Addr} {i : Nat} {m : MO}, gs[i]? = some (.own m) → gv[i]? = some (some (.ref a)) → a ∈ owns gs gv
  | [], _, _, _, _, e, _ => by simp at e
  | _ :: _, [], _, _, _, _, e => by simp at e
  | g :: gs, v :: gv, a, 0, m, e1, e2 => by
    cases e1
    cases e2
    exact List.mem_cons_self
  | g :: gs, v :: gv, a, i + 1, m, e1, e2 => by
    have ih := mem_owns (gs := gs) (gv := gv) (i := i) (by simpa using e1) (by simpa using e2)
    cases g with
    | own m0 =>
      cases v with
      | none => exact ih
      | some v =>
        cases v with
        | ref b => exact List.mem_cons_of_mem _ ih
        | _ => exact ih
    | _ => exact ih
theorem of_owns : ∀ {gs : List Sl} {gv : List (Option V)} {a : Addr}, a ∈ owns gs gv → ∃ (i : Nat) (m : MO), gs[i]? = some (.own m) ∧ gv[i]? = some (some (.ref a))
  | [], _, a, h => by cases (show a ∈ ([] : List Addr) from by simpa [owns] using h)
  | g :: gs, [], a, h => by
    cases g <;> cases (show a ∈ ([] : List Addr) from by simpa [owns] using h)
  | g :: gs, v :: gv, a, h => by
    have go : a ∈ owns gs gv → ∃ (i : Nat) (m : MO), (g :: gs)[i]? = some (.own m) ∧ (v :: gv)[i]? = some (some (.ref a)) := fun h => by
      obtain ⟨i, m, e1, e2⟩ := of_owns h
      exact ⟨i + 1, m, by simpa using e1, by simpa using e2⟩
    cases g with
    | own m0 =>
      cases v with
      | none => exact go h
      | some v =>
        cases v with
        | ref b =>
          rcases List.mem_cons.mp (show a ∈ b :: owns gs gv from h) with rfl | h
          · exact ⟨0, m0, rfl, rfl⟩
          · exact go h
        | _ => exact go h
    | _ => exact go h
section
variable {B : Base} {F F' : Addr → Prop} {ρ ρ' : Nat → Addr} {gs gs' : List Sl} {gv gv' : List (Option V)} {S S' : Store} {H H' : Hp} {C C' : List Addr}
abbrev Base.re (B : Base) (F : Addr → Prop) (ρ : Nat → Addr) (gs : List Sl) (gv : List (Option V)) (S : Store) (H : Hp) (C : List Addr) : Base := ⟨B.K, H, F, ρ, S.next, C ++ owns gs gv⟩
theorem StR.re (h : StR B F ρ gs gv S H C) : StR (B.re F ρ gs gv S H C) F ρ gs gv S H C :=
  ⟨h.len, h.ent, h.uniq, h.nF, h.nC, h.pC, h.cel, h.cnd, h.cF, h.cH, h.fT, fun _ _ e _ => e, fun _ q => q, fun _ q => .inl q, fun a q => .inl (List.mem_append_left _ q),
    fun i m a e1 e2 => .inl (List.mem_append_right _ (mem_owns e1 e2)), fun _ _ => rfl, Nat.le_refl _⟩
theorem StR.own_old (h : StR B F ρ gs gv S H C) {a : Addr} (q : a ∈ C ++ owns gs gv) : a ∈ B.A0 ∨ B.H0 a = none := by
  rcases List.mem_append.mp q with q | q
  · exact h.cN a q
  · obtain ⟨i, m, e1, e2⟩ := of_owns q
    exact h.oN i m a e1 e2
theorem StR.unre (h : StR B F ρ gs gv S H C) (q : StR (B.re F ρ gs gv S H C) F' ρ' gs' gv' S' H' C') : StR B F' ρ' gs' gv' S' H' C' := by
  refine ⟨q.len, q.ent, q.uniq, q.nF, q.nC, q.pC, q.cel, q.cnd, q.cF, q.cH, q.fT, fun a o e n => q.keep a o (h.keep a o e n) fun z => ?_, fun a z => q.fF a (h.fF a z), fun a z => ?_, fun a z => ?_, fun i m a e1 e2 => ?_,
    fun n hn => (q.rho n (Nat.lt_of_lt_of_le hn h.nx)).trans (h.rho n hn), Nat.le_trans h.nx q.nx⟩
  · rcases h.own_old z with y | y
    · exact n y
    · rw [y] at e; cases e
  · rcases q.fN a z with y | y | y
    · exact h.fN a y
    · exact .inr (h.own_old y)
    · exact .inr (h.fresh0 y).symm
  · rcases q.cN a z with y | y
    · exact h.own_old y
    · exact (h.fresh0 y).symm
  · rcases q.oN i m a e1 e2 with y | y
    · exact h.own_old y
    · exact (h.fresh0 y).symm
theorem StR.le_re (h : StR B F ρ gs gv S H C) (q : StR (B.re F ρ gs gv S H C) F' ρ' gs' gv' S' H' C') : (gOf B F ρ S H).le (gOf B F' ρ' S' H') := by
  refine ⟨rfl, q.nx, q.rho, q.fF, fun a o e s => q.keep a o e fun z => ?_⟩
  rcases List.mem_append.mp z with z | z
  · obtain ⟨o', e', m⟩ := h.cel.isM a z
    have e' : H a = some o' := e'
    rw [show H a = some o from e] at e'
    cases e'
    exact h.cF a z (s.notM m)
  · obtain ⟨i, m, e1, e2⟩ := of_owns z
    obtain ⟨b, eb, own⟩ := h.ent i _ _ e1 e2
    cases eb
    obtain ⟨o', e', im⟩ := own.isM
    have e' : H a = some o' := e'
    rw [show H a = some o from e] at e'
    cases e'
    exact h.nF i m a e1 e2 (s.notM im)
theorem Imp.re {E : XW} {Wx : WX} (h : StR B F ρ gs gv S H C) (i : Imp B E Wx) : Imp (B.re F ρ gs gv S H C) E Wx := fun Cn τ S F ρ C σ H q e => i Cn τ S F ρ C σ H (h.unre q) e
theorem OP.re {E : XW} {D : Ends} (h : StR B F ρ gs gv S H C) : ∀ {o : O}, OP B E D o → OP (B.re F ρ gs gv S H C) E D o
  | .nx _ _, k => fun σ H F ρ C q => k σ H F ρ C (h.unre q)
  | .rt _ _ _, k => fun v σ H F ρ C q => k v σ H F ρ C (h.unre q)
  | .bk _ _, k => fun σ H F ρ C q => k σ H F ρ C (h.unre q)
  | .ct _ _, k => fun σ H F ρ C q => k σ H F ρ C (h.unre q)
  | .ex _ _ _, k => k
  | .no, k => k
end

/-! ### what is walked -/
/-- J walks ws, wherever the entry e stands -/
def Yld (K : PySem.W.Frag) (e : Sl) (v : V) (ws : List W) (J : It) : Prop := ∀ (B : Base) F ρ gs gv S H C, B.K = K → StR B F ρ (e :: gs) (some v :: gv) S H C →
  (∀ (i : Nat) w, ws[i]? = some w → J.go i H ∧ ∀ x H', J.yld i H x H' → Ext H H' ∧ Rep (gOf B F ρ S H') w x) ∧ J.stop ws.length H
abbrev DI := Tau → Store → R (Sl × List W)
def SimI (B : Base) (E : XW) (wi : TI) (d : DI) : Prop := ∀ F ρ stk vstk τ σ S H C (R : It → Hp → Prop), stk.length = vstk.length → StR B F ρ (stk ++ τ) (vstk ++ σ) S H C →
  RP (d τ S) (fun p τ' S' => ∀ J v H' F' ρ' C', StR B F' ρ' (p.1 :: (stk ++ τ')) (some v :: (vstk ++ σ)) S' H' C' → Yld B.K p.1 v p.2 J → R J H') E → wi σ H R
def VI (D : DC) (Wx : WX) (tg iter : Expr) (d : DI) : Prop := ∃ wi, (∀ X, CxOk D Wx X → PI X tg iter wi) ∧ ∀ B E, B.K = D.K → Imp B E Wx → SimI B E wi d

/-! for -/
def dLoop (g : DG) (body : DS) : List W → DS
  | [], τ, S => .nx τ S
  | w :: ws, τ, S => match g (.val w) τ S with
    | .nx τ S => (match body τ S with
      | .nx τ S => dLoop g body ws τ S
      | .ct τ S => dLoop g body ws τ S
      | .bk τ S => .nx τ S
      | o => o)
    | .ex C τ S => .ex C τ S
    | _ => .no
def dFor (it : DI) (g : DG) (body : DS) : DS := fun τ S => (it τ S).thenS fun p τ S => match p.1 with
  | .val _ => dLoop g body p.2 τ S
  | _ => .no
section
variable {D : DC} {Wx : WX}
theorem sim_loop {B : Base} {E : XW} {g : TG} {gd : DG} {tb : TS} {body : DS} (sg : SimG B E g gd) (sb : SimS B E tb body) {Dn : Ends} {ws : List W} {J : It} {w0 : W} {v0 : V} (hY : Yld B.K (.val w0) v0 ws J)
    (up : ∀ {F ρ gs gv S H C}, StR B F ρ gs gv S H C → Rep (gOf B F ρ S H) w0 v0) {F ρ τ σ S H C} (h : StR B F ρ τ σ S H C) (k : OP B E Dn (dLoop gd body ws τ S)) :
    ∃ Wm : Nat → Nat → St → Hp → Prop, (∃ m, Wm 0 m σ H) ∧ ∀ i m σ H, Wm i m σ H →
      (J.stop i H ∧ Dn.nx σ H) ∨ (J.go i H ∧ ∃ N : St → Hp → Prop, (∀ σ' H', N σ' H' → ∃ m', m' < m ∧ Wm (i + 1) m' σ' H') ∧ ∀ x H', J.yld i H x H' → g x σ H' fun σ2 H2 => tb { Dn with nx := N, ct := N, bk := Dn.nx } σ2 H2) := by
  refine ⟨fun i m σ H => m = ws.length - i ∧ i ≤ ws.length ∧ ∃ τ S F ρ C, StR B F ρ τ σ S H C ∧ OP B E Dn (dLoop gd body (ws.drop i) τ S), ⟨ws.length, by simp, Nat.zero_le _, τ, S, F, ρ, C, h, k⟩, ?_⟩
  rintro i m σ H ⟨rfl, hi, τ, S, F, ρ, C, h, k⟩
  obtain ⟨Y1, Y2⟩ := hY B F ρ τ σ S H C rfl (h.push (up h))
  by_cases hlt : i < ws.length
  · obtain ⟨go, yl⟩ := Y1 i ws[i] (by simp [hlt])
    refine .inr ⟨go, fun σ' H' => ∃ τ S F ρ C, StR B F ρ τ σ' S H' C ∧ OP B E Dn (dLoop gd body (ws.drop (i + 1)) τ S), fun σ' H' n => ⟨ws.length - (i + 1), by omega, rfl, hlt, n⟩, fun x H' y => ?_⟩
    obtain ⟨ex, rx⟩ := yl x H' y
    rw [List.drop_eq_getElem_cons hlt] at k
    unfold dLoop at k
    refine sg F ρ (.val ws[i]) x τ σ S H' C { Dn with nx := fun σ2 H2 => tb _ σ2 H2 } ((h.heap ex).push rx) ?_
    cases e : gd (.val ws[i]) τ S with
    | nx τ1 S1 =>
      rw [e] at k
      intro σ1 H1 F1 ρ1 C1 h1
      refine sb F1 ρ1 τ1 σ1 S1 H1 C1 _ h1 ?_
      have k : OP B E Dn (match body τ1 S1 with
        | .nx τ S => dLoop gd body (ws.drop (i + 1)) τ S
        | .ct τ S => dLoop gd body (ws.drop (i + 1)) τ S
        | .bk τ S => .nx τ S
        | o => o) := k
      cases e2 : body τ1 S1 with
      | nx τ2 S2 => rw [e2] at k; exact fun σ2 H2 F2 ρ2 C2 h2 => ⟨τ2, S2, F2, ρ2, C2, h2, k⟩
      | ct τ2 S2 => rw [e2] at k; exact fun σ2 H2 F2 ρ2 C2 h2 => ⟨τ2, S2, F2, ρ2, C2, h2, k⟩
      | bk τ2 S2 => rw [e2] at k; exact k
      | rt r τ2 S2 => rw [e2] at k; exact k
      | ex Cn τ2 S2 => rw [e2] at k; exact k
      | no => rw [e2] at k; exact k
    | ex Cn τ1 S1 => rw [e] at k; exact k
    | rt _ _ _ => rw [e] at k; exact k.elim
    | bk _ _ => rw [e] at k; exact k.elim
    | ct _ _ => rw [e] at k; exact k.elim
    | no => rw [e] at k; exact k.elim
  · have e : i = ws.length := by omega
    subst e
    rw [List.drop_length] at k
    exact .inl ⟨Y2, k σ H F ρ C h⟩
theorem vs_for {tg iter : Expr} {body : List Stmt} {pos : Pos} {di : DI} {g : DG} {db : DS} (hc : D.calm = true) (hi : VI D Wx tg iter di) (hg : VG D Wx tg g) (hb : VSs D Wx body db) (hs : ∀ env x, foldedSetIterable iter env x = pure x) :
    VS D Wx (.For tg iter body [] pos) (dFor di g db) := by
  obtain ⟨wi, pi, si⟩ := hi
  obtain ⟨tg', pg, sg⟩ := hg
  obtain ⟨tb, pb, sb⟩ := hb
  refine ⟨tFor wi tg' tb, fun X c => ps_for c.pass (c.hot hc) (pi X c) (pg X c) (pb X c) (hs _), fun B E hK iw F ρ τ σ S H C Dn h k => ?_⟩
  refine si B E hK iw F ρ [] [] τ σ S H C _ rfl h ((OP.thenS k).mono fun p τ1 S1 k J v H1 F1 ρ1 C1 h1 y => ?_)
  obtain ⟨e, ws⟩ := p
  cases e with
  | val w =>
    have h0 : StR B F1 ρ1 τ1 σ S1 H1 C1 := StR.pop h1
    obtain ⟨v', ev, r⟩ := StR.top h1
    cases ev
    exact sim_loop (B := B.re F1 ρ1 τ1 σ S1 H1 C1) (sg (B.re F1 ρ1 τ1 σ S1 H1 C1) E hK (iw.re h0)) (sb (B.re F1 ρ1 τ1 σ S1 H1 C1) E hK (iw.re h0)) y (fun {F ρ gs gv S H C} q => Rep.le (h0.le_re q) _ _ r) h0.re (OP.re h0 k)
  | _ => exact k.elim

/-! ### what there is to walk -/
/-- a list, a tuple, a text, by an expression -/
def iSeqs (K : PySem.W.Frag) (tl : TE) : TI := fun σ H R => tl σ H fun x H1 => (∃ a, x = .ref a ∧ (∃ xs, SqL K H1 a xs) ∧ R (Itl K a) H1) ∨ (∃ a, x = .ref a ∧ (∃ xs, SqT K H1 a xs) ∧ R (Itt K a) H1) ∨ ∃ y, x = .str y ∧ R (Its y) H1
theorem pi_seqs {X : Cx} {tg l : Expr} {tl : TE} (hl : PE X l tl) : PI X tg l (iSeqs X.K tl) := by
  refine ⟨fun pl t τ K R J w => thn (hl.run pl t τ K _ J w) fun v t1 ⟨x, K1, J1, rx, way⟩ => ?_⟩
  -- the iterator is the next object
  have own : ∀ b ∈ [t1.heap.objs.size], FpOk X pl K1 b := fun b hb => by
    obtain rfl : b = t1.heap.objs.size := by simpa using hb
    exact J1.fpOk (Nat.le_refl _) J1.fresh
  rcases way with ⟨a, rfl, ⟨xs, hq⟩, q⟩ | ⟨a, rfl, ⟨xs, hq⟩, q⟩ | ⟨y, rfl, q⟩
  · obtain rfl : v = .ref a := rx
    obtain ⟨_, _, pl', _⟩ := J1.list hq
    exact wpAny_pyIter_list pl'.isList ⟨_, [t1.heap.objs.size], _, _, K1, rfl, J1.kept (t' := t1.toks) fun _ _ => Heap.get?_push_of_some _, turn_list a _, ⟨_, Heap.get?_push_size _ rfl, rfl, rfl⟩, own, q⟩
  · obtain rfl : v = .ref a := rx
    obtain ⟨ys, _, pt, _⟩ := J1.tuple hq
    have pt : t1.heap.IsTuple a ys.toArray := pt
    exact wpAny_pyIter_tuple pt ⟨_, [t1.heap.objs.size], _, _, K1, rfl, J1.kept (t' := t1.toks) fun _ _ => Heap.get?_push_of_some _, turn_tuple a _, ⟨_, Heap.get?_push_size _ rfl, rfl, rfl⟩, own, q⟩
  · obtain ⟨tk, rfl⟩ := rx
    by_cases wide : y.cps.all (· < 128) = true
    · exact wpAny_pyIter_ascii wide (pi_one (tk := t1.toks) J1 _ (turn_str _ y tk _ (.inl rfl)) ⟨_, Heap.get?_push_size _ rfl, rfl, rfl⟩ q)
    · exact wpAny_pyIter_wide (by simpa using wide) (pi_one (tk := t1.toks) J1 _ (turn_str _ y tk _ (.inr rfl)) ⟨_, Heap.get?_push_size _ rfl, rfl, rfl⟩ q)
def signs (x : Str) : List W := x.cps.toList.map fun c => .str ⟨#[c]⟩
def Sl.items : Sl → Option (List W)
  | .val (.lst xs) => some xs
  | .val (.tup xs) => some xs
  | .val (.str x) => some (signs x)
  | _ => none
def Sl.itemsP : Sl → Option (List W)
  | .pk (.lst xs) => some xs
  | s => s.items
def iSeqP (d : DE) : DI := fun τ S => (d τ S).bind fun x τ S => R.of (x.itemsP.map fun ws => (x, ws)) τ S
def iSeq (d : DE) : DI := iSeqP (dKeep d)
theorem yld_list {g : G} {a : Addr} {ws : List W} {vs : List V} (h' : SqL g.K g.H a vs) (r' : Reps g ws vs) : (∀ (i : Nat) w, ws[i]? = some w → (Itl g.K a).go i g.H ∧ ∀ x H', (Itl g.K a).yld i g.H x H' → Ext g.H H' ∧ Rep (g.at_ H') w x) ∧ (Itl g.K a).stop ws.length g.H := by
  refine ⟨fun i w e => ?_, ⟨vs, h', by rw [r'.length]; exact Nat.le_refl _⟩⟩
  obtain ⟨v, ev, rv⟩ := r'.get e
  refine ⟨⟨vs, v, h', ev⟩, fun x H' y => ?_⟩
  obtain ⟨rfl, y⟩ := y
  have := y vs h'
  rw [ev] at this
  cases this
  exact ⟨Ext.refl _, rv⟩
theorem yld_tup {g : G} {a : Addr} {ws : List W} {vs : List V} (h' : SqT g.K g.H a vs) (r' : Reps g ws vs) : (∀ (i : Nat) w, ws[i]? = some w → (Itt g.K a).go i g.H ∧ ∀ x H', (Itt g.K a).yld i g.H x H' → Ext g.H H' ∧ Rep (g.at_ H') w x) ∧ (Itt g.K a).stop ws.length g.H := by
  refine ⟨fun i w e => ?_, ⟨vs, h', by rw [r'.length]; exact Nat.le_refl _⟩⟩
  obtain ⟨v, ev, rv⟩ := r'.get e
  refine ⟨⟨vs, v, h', ev⟩, fun x H' y => ?_⟩
  obtain ⟨rfl, y⟩ := y
  have := y vs h'
  rw [ev] at this
  cases this
  exact ⟨Ext.refl _, rv⟩
theorem yld_str {g : G} {x : Str} (hk : PyData.strOk x = true) : (∀ (i : Nat) w, (signs x)[i]? = some w → (Its x).go i g.H ∧ ∀ y H', (Its x).yld i g.H y H' → Ext g.H H' ∧ Rep (g.at_ H') w y) ∧ (Its x).stop (signs x).length g.H := by
  refine ⟨fun i w e => ?_, by show x.cps.size ≤ (signs x).length; unfold signs; simp⟩
  unfold signs at e
  rw [List.getElem?_map] at e
  obtain ⟨c, ec, rfl⟩ := Option.map_eq_some_iff.mp e
  have hc : c ∈ x.cps.toList := List.mem_of_getElem? ec
  have ec' : x.cps[i]? = some c := by simpa using ec
  refine ⟨?_, fun v H' y => ?_⟩
  · show i < x.cps.size
    exact (Array.getElem?_eq_some_iff.mp ec').1
  · obtain ⟨rfl, c', e1, rfl⟩ := y
    rw [ec'] at e1
    cases e1
    exact ⟨Ext.refl _, repStr (by show 1 ≤ strLine; decide) (strOk_sign hk hc)⟩
theorem vi_seqP {tg e : Expr} {d : DE} (h : VE D Wx e d) : VI D Wx tg e (iSeqP d) := by
  obtain ⟨t, p, s⟩ := h
  refine ⟨iSeqs D.K t, fun X c => by rw [← c.K]; exact pi_seqs (p X c), fun B E hK iw F ρ stk vstk τ σ S H C R hl h k => ?_⟩
  refine s B E hK iw F ρ stk vstk τ σ S H C _ hl h (k.bind.mono fun x τ1 S1 k v H1 F1 ρ1 C1 h1 => ?_)
  obtain ⟨p, e, k⟩ := k.of
  obtain ⟨ws, e2, rfl⟩ := Option.map_eq_some_iff.mp e
  have e := e2
  clear e2
  rw [← hK]
  -- a list that is read, wherever it stands
  have lst : ∀ {xs : List W}, x.rd = some (.lst xs) → ws = xs → ∃ a, v = .ref a ∧ (∃ us, SqL B.K H1 a us) ∧ R (Itl B.K a) H1 := fun {xs} er ew => by
    subst ew
    obtain ⟨y, ev, ry⟩ := (StR.top h1).rd er
    cases ev
    obtain ⟨a, vs, rfl, q, r⟩ := ry
    refine ⟨a, rfl, ⟨vs, q.sq⟩, k _ _ H1 F1 ρ1 C1 h1 fun B' F' ρ' gs gv S' H' C' hB h' => ?_⟩
    obtain ⟨y, ev, ry⟩ := (StR.top h').rd er
    cases ev
    obtain ⟨a', vs', ea, q, r⟩ := ry
    cases ea
    rw [← hB]
    exact yld_list (g := gOf B' F' ρ' S' H') q.sq r
  unfold Sl.itemsP at e
  split at e
  · rename_i xs
    cases e
    exact .inl (lst rfl rfl)
  · unfold Sl.items at e
    split at e
    · cases e
      exact .inl (lst rfl rfl)
    · rename_i xs _
      cases e
      obtain ⟨y, ev, ry⟩ := StR.top h1
      cases ev
      unfold Rep at ry
      obtain ⟨a, vs, rfl, q, r⟩ := ry
      refine .inr (.inl ⟨a, rfl, ⟨vs, q⟩, k _ _ H1 F1 ρ1 C1 h1 fun B' F' ρ' gs gv S' H' C' hB h' => ?_⟩)
      obtain ⟨y, ev, ry⟩ := StR.top h'
      cases ev
      unfold Rep at ry
      obtain ⟨a', vs', ea, q, r⟩ := ry
      cases ea
      rw [← hB]
      exact yld_tup (g := gOf B' F' ρ' S' H') q r
    · cases e
      obtain ⟨y, ev, ry⟩ := StR.top h1
      cases ev
      unfold Rep at ry
      obtain ⟨rfl, hz, hk⟩ := ry
      exact .inr (.inr ⟨_, rfl, k _ _ H1 F1 ρ1 C1 h1 fun B' F' ρ' gs gv S' H' C' hB h' => yld_str (g := gOf B' F' ρ' S' H') hk⟩)
    · cases e
theorem vi_seq {tg e : Expr} {d : DE} (h : VE D Wx e d) : VI D Wx tg e (iSeq d) := vi_seqP (ve_keep h)
/-- range(n), range(m, n) -/
def upTo (lo : Int) (n : Nat) : List W := (List.range n).map fun (i : Nat) => .int (lo + (i : Int))
def rng1 : List Sl → Option (List W)
  | [.val (.int j)] => if -(2 ^ 62) ≤ j ∧ j < 2 ^ 62 then some (upTo 0 j.toNat) else none
  | _ => none
def rng2 : List Sl → Option (List W)
  | [.val (.int i), .val (.int j)] => if -(2 ^ 62) ≤ i ∧ i < 2 ^ 62 ∧ -(2 ^ 62) ≤ j ∧ j < 2 ^ 62 then some (upTo i (j - i).toNat) else none
  | _ => none
def iRange1 (a : DA) : DI := fun τ S => (a τ S).bind fun rs τ S => R.of ((rng1 rs).map fun ws => (.val .non, ws)) τ S
def iRange2 (a : DA) : DI := fun τ S => (a τ S).bind fun rs τ S => R.of ((rng2 rs).map fun ws => (.val .non, ws)) τ S
theorem yld_range {K : PySem.W.Frag} {v : V} (lo : Int) (n : Nat) : Yld K (.val .non) v (upTo lo n) (Itr lo n) := fun B F ρ gs gv S H C _ _ => by
  refine ⟨fun i w e => ?_, by show n ≤ (upTo lo n).length; unfold upTo; simp⟩
  unfold upTo at e
  rw [List.getElem?_map] at e
  obtain ⟨c, ec, rfl⟩ := Option.map_eq_some_iff.mp e
  have hi : i < n := by
    have := (List.getElem?_eq_some_iff.mp ec).1
    simpa using this
  rw [List.getElem?_range hi] at ec
  cases ec
  refine ⟨hi, fun v H' y => ?_⟩
  obtain ⟨rfl, rfl⟩ := y
  exact ⟨Ext.refl _, repInt _⟩
theorem one_arg {B : Base} {F ρ S H} {rs : List Sl} {vs : List V} (h : Paired (fun sl v => ER (gOf B F ρ S H) sl (some v)) rs vs) {ws : List W} (e : rng1 rs = some ws) : ∃ j : Int, vs = [.int j] ∧ -(2 ^ 62) ≤ j ∧ j < 2 ^ 62 ∧ ws = upTo 0 j.toNat := by
  unfold rng1 at e
  split at e
  · rename_i j
    split at e
    · rename_i hj
      cases e
      cases h with
      | cons r t =>
        cases t
        obtain ⟨v', ev, rv⟩ := r
        cases ev
        unfold Rep at rv
        subst rv
        exact ⟨j, rfl, hj.1, hj.2, rfl⟩
    · cases e
  · cases e
theorem two_arg {B : Base} {F ρ S H} {rs : List Sl} {vs : List V} (h : Paired (fun sl v => ER (gOf B F ρ S H) sl (some v)) rs vs) {ws : List W} (e : rng2 rs = some ws) : ∃ i j : Int, vs = [.int i, .int j] ∧ (-(2 ^ 62) ≤ i ∧ i < 2 ^ 62 ∧ -(2 ^ 62) ≤ j ∧ j < 2 ^ 62) ∧ ws = upTo i (j - i).toNat := by
  unfold rng2 at e
  split at e
  · rename_i i j
    split at e
    · rename_i hj
      cases e
      cases h with
      | cons r t =>
        cases t with
        | cons r2 t =>
        cases t
        obtain ⟨v', ev, rv⟩ := r
        cases ev
        obtain ⟨v', ev, rv2⟩ := r2
        cases ev
        unfold Rep at rv rv2
        subst rv rv2
        exact ⟨i, j, rfl, hj, rfl⟩
    · cases e
  · cases e
theorem vi_range1 {tg a : Expr} {p pos : Pos} {d : DA} (hg : D.sc.names.lookup ("range" : Str) = some .globalImplicit) (hm : D.mg "range" = none) (ha : VA D Wx [a] d) (hs : notStar a = true) : VI D Wx tg (.Call (.Name "range" p) [a] [] pos) (iRange1 d) := by
  obtain ⟨t, pt, s⟩ := ha
  refine ⟨iRng1 t, fun X c => pi_range1 (c.gl hg) (by rw [c.mg]; exact hm) (pt X c) (by rw [starEach_cons hs] <;> rfl), fun B E hK iw F ρ stk vstk τ σ S H C R hl h k => ?_⟩
  refine s B E hK iw F ρ stk vstk τ σ S H C _ hl h (k.bind.mono fun rs τ1 S1 k vs H1 F1 ρ1 C1 e1 h1 => ?_)
  obtain ⟨p, e, k⟩ := k.of
  obtain ⟨ws, e2, rfl⟩ := Option.map_eq_some_iff.mp e
  obtain ⟨j, rfl, h1', h2', rfl⟩ := one_arg (tops e1 h1) e2
  exact ⟨j, rfl, h1', h2', k _ _ H1 F1 ρ1 C1 ((popAll e1 h1).push repNon) (yld_range 0 _)⟩
theorem vi_range2 {tg a b : Expr} {p pos : Pos} {d : DA} (hg : D.sc.names.lookup ("range" : Str) = some .globalImplicit) (hm : D.mg "range" = none) (ha : VA D Wx [a, b] d) (hs : notStar a = true) (hs2 : notStar b = true) : VI D Wx tg (.Call (.Name "range" p) [a, b] [] pos) (iRange2 d) := by
  obtain ⟨t, pt, s⟩ := ha
  refine ⟨iRng2 t, fun X c => pi_range2 (c.gl hg) (by rw [c.mg]; exact hm) (pt X c) (by rw [starEach_cons hs, starEach_cons hs2] <;> rfl) (by rw [starEach_cons hs2] <;> rfl), fun B E hK iw F ρ stk vstk τ σ S H C R hl h k => ?_⟩
  refine s B E hK iw F ρ stk vstk τ σ S H C _ hl h (k.bind.mono fun rs τ1 S1 k vs H1 F1 ρ1 C1 e1 h1 => ?_)
  obtain ⟨p, e, k⟩ := k.of
  obtain ⟨ws, e2, rfl⟩ := Option.map_eq_some_iff.mp e
  obtain ⟨i, j, rfl, h1', rfl⟩ := two_arg (tops e1 h1) e2
  exact ⟨i, j, rfl, h1', k _ _ H1 F1 ρ1 C1 ((popAll e1 h1).push repNon) (yld_range i _)⟩
end
end VM

set_option Elab.async false
set_option linter.all false
/-! VM10: targets of names, comprehensions. -/
namespace VM
open PySem PySem.Spec L2
open PyProof.Rows hiding St

section
variable {B : Base} {F : Addr → Prop} {ρ : Nat → Addr} {gs gs' : List Sl} {gv gv' : List (Option V)} {S : Store} {H : Hp} {C : List Addr}
/-- entries are dropped, or values put in their place -/
theorem StR.patch (h : StR B F ρ gs gv S H C) (hl : gs'.length = gv'.length) (p : ∀ (i : Nat) sl v, gs'[i]? = some sl → gv'[i]? = some v → (gs[i]? = some sl ∧ gv[i]? = some v) ∨ sl = .no ∨ ∃ w x, sl = .val w ∧ v = some x ∧ Rep (gOf B F ρ S H) w x) :
    StR B F ρ gs' gv' S H C := by
  have own : ∀ {i : Nat} {m : MO} {a : Addr}, gs'[i]? = some (.own m) → gv'[i]? = some (some (.ref a)) → gs[i]? = some (.own m) ∧ gv[i]? = some (some (.ref a)) := fun {i m a} e1 e2 => by
    rcases p i _ _ e1 e2 with q | q | ⟨w, x, q, _⟩
    · exact q
    · cases q
    · cases q
  refine ⟨hl, fun i sl v e1 e2 => ?_, fun i j m m' a e1 e2 e3 e4 => h.uniq i j m m' a (own e1 e2).1 (own e1 e2).2 (own e3 e4).1 (own e3 e4).2, fun i m a e1 e2 => h.nF i m a (own e1 e2).1 (own e1 e2).2, fun i m a e1 e2 => h.nC i m a (own e1 e2).1 (own e1 e2).2,
    fun i w a e1 e2 => ?_, h.cel, h.cnd, h.cF, h.cH, h.fT, h.keep, h.fF, h.fN, h.cN, fun i m a e1 e2 => h.oN i m a (own e1 e2).1 (own e1 e2).2, h.rho, h.nx⟩
  · rcases p i _ _ e1 e2 with q | rfl | ⟨w, x, rfl, rfl, r⟩
    · exact h.ent i sl v q.1 q.2
    · trivial
    · exact ⟨x, rfl, r⟩
  · rcases p i _ _ e1 e2 with q | q | ⟨w, x, q, _⟩
    · exact h.pC i w a q.1 q.2
    · cases q
    · cases q
end
theorem get_stk {α : Type} {s t t' : List α} {i : Nat} {x : α} (h : (s ++ t)[i]? = some x) : (i < s.length ∧ (s ++ t')[i]? = some x) ∨ (s.length ≤ i ∧ t[i - s.length]? = some x) := by
  by_cases hi : i < s.length
  · rw [List.getElem?_append_left hi] at h
    exact .inl ⟨hi, by rw [List.getElem?_append_left hi]; exact h⟩
  · rw [List.getElem?_append_right (by omega)] at h
    exact .inr ⟨by omega, h⟩
section
variable {B : Base} {F : Addr → Prop} {ρ : Nat → Addr} {stk : List Sl} {vstk : List (Option V)} {τ τ' : Tau} {σ σ' : St} {S : Store} {H : Hp} {C : List Addr}
/-- the same behind a stack -/
theorem StR.patchS (hs : stk.length = vstk.length) (h : StR B F ρ (stk ++ τ) (vstk ++ σ) S H C) (hl : τ'.length = σ'.length) (p : ∀ (i : Nat) sl v, τ'[i]? = some sl → σ'[i]? = some v → (τ[i]? = some sl ∧ σ[i]? = some v) ∨ sl = .no ∨ ∃ w x, sl = .val w ∧ v = some x ∧ Rep (gOf B F ρ S H) w x) :
    StR B F ρ (stk ++ τ') (vstk ++ σ') S H C := by
  refine h.patch (by simp [hs, hl]) fun i sl v e1 e2 => ?_
  rcases get_stk (t' := τ) e1 with ⟨h1, q1⟩ | ⟨h1, q1⟩
  · rcases get_stk (t' := σ) e2 with ⟨h2, q2⟩ | ⟨h2, q2⟩
    · exact .inl ⟨q1, q2⟩
    · omega
  · rcases get_stk (t' := σ) e2 with ⟨h2, q2⟩ | ⟨h2, q2⟩
    · omega
    · rw [← hs] at q2
      rcases p _ sl v q1 q2 with ⟨z1, z2⟩ | z
      · left
        constructor
        · rw [List.getElem?_append_right h1]; exact z1
        · rw [List.getElem?_append_right (by omega), ← hs]; exact z2
      · exact .inr z
end
/-! ### targets: a name, or a tuple of names -/
def setAll : Tau → List Nat → List W → Tau
  | τ, i :: is, w :: ws => setAll (τ.set i (.val w)) is ws
  | τ, _, _ => τ
def setAllV : St → List Nat → List V → St
  | σ, i :: is, w :: ws => setAllV (σ.set i (some w)) is ws
  | σ, _, _ => σ
inductive Tg where
  | one (i : Nat)
  | tup (is : List Nat)
def Tg.slots : Tg → List Nat
  | .one i => [i]
  | .tup is => is
/-- a value goes to a target -/
def Tg.put : Tg → W → Tau → Option Tau
  | .one i, w, τ => some (τ.set i (.val w))
  | .tup is, .tup ws, τ => if ws.length = is.length then some (setAll τ is ws) else none
  | .tup is, .lst ws, τ => if ws.length = is.length then some (setAll τ is ws) else none
  | _, _, _ => none
def tNames (is : List Nat) : TGs := fun vs σ H Q => vs.length = is.length ∧ Q (setAllV σ is vs) H
def tTg (K : PySem.W.Frag) : Tg → TG
  | .one i => gName i
  | .tup is => fun v σ H Q => gTup K is.length (tNames is) v σ H Q ∨ gLst K is.length (tNames is) v σ H Q
theorem pg_or {X : Cx} {e : Expr} {t1 t2 : TG} (h1 : PG X e t1) (h2 : PG X e t2) : PG X e (fun v σ H Q => t1 v σ H Q ∨ t2 v σ H Q) := by
  refine ⟨fun pins s σ H v u Q I r hw => ?_⟩
  rcases hw with hw | hw
  · exact h1.run pins s σ H v u Q I r hw
  · exact h2.run pins s σ H v u Q I r hw
section
variable {D : DC} {Wx : WX} {B : Base} {E : XW}
def nameIx (D : DC) : Expr → Option Nat
  | .Name x _ => if locC D x = true then (match D.N.findIdx? (· == x) with
    | some i => if D.N[i]? = some x then some i else none
    | none => none) else none
  | _ => none
def tgOf (D : DC) : Expr → Option Tg
  | .Tuple es _ _ => (es.mapM (nameIx D)).map .tup
  | e => (nameIx D e).map .one
theorem nameIx_some {e : Expr} {i : Nat} (h : nameIx D e = some i) : ∃ x p, e = .Name x p ∧ locC D x = true ∧ D.N[i]? = some x := by
  unfold nameIx at h
  split at h
  · rename_i x p
    split at h
    · rename_i hl
      split at h
      · split at h
        · rename_i hi
          cases h
          exact ⟨x, p, rfl, hl, hi⟩
        · cases h
      · cases h
    · cases h
  · cases h
theorem pgs_names (o : DOk D) {X : Cx} (c : CxOk D Wx X) : ∀ {es : List Expr} {is : List Nat}, es.mapM (nameIx D) = some is → PGs X es (tNames is) ∧ (assignEach es X.env).length = is.length ∧ (assignEach es X.env).findIdx? (·.1) = none
  | [], is, h => by
    cases h
    refine ⟨⟨fun pins s σ H vs us Q I r hw => ?_⟩, rfl, rfl⟩
    obtain ⟨hl, q⟩ := hw
    have e : vs = [] := List.length_eq_zero_iff.mp hl
    subst e
    exact (pgs_nil (X := X)).run pins s σ H [] us Q I r ⟨rfl, q⟩
  | e :: es, is, h => by
    rw [List.mapM_cons] at h
    obtain ⟨i, h1, h2⟩ := Option.bind_eq_some_iff.mp h
    obtain ⟨js, h3, h4⟩ := Option.bind_eq_some_iff.mp h2
    cases h4
    obtain ⟨x, p, rfl, hl, hi⟩ := nameIx_some h1
    obtain ⟨ih, l, f⟩ := pgs_names o c h3
    have pn : PG X (.Name x p) (gName i) := pg_name (by rw [c.N]; exact o.nd) (by rw [c.N]; exact hi) (loc_of c hl).1 (loc_of c hl).2
    refine ⟨⟨fun pins s σ H vs us Q I r hw => ?_⟩, by show (assignEach es X.env).length + 1 = js.length + 1; rw [l], ?_⟩
    · obtain ⟨hl, q⟩ := hw
      match vs, hl with
      | v :: vs, hl => exact (pgs_cons pn ih).run pins s σ H (v :: vs) us Q I r ⟨v, vs, rfl, by simpa using hl, q⟩
    · show ((false, assign (.Name x p) X.env) :: assignEach es X.env).findIdx? (·.1) = none
      rw [List.findIdx?_cons, f] <;> rfl
theorem pg_tg (o : DOk D) (hc : D.calm = true) {X : Cx} (c : CxOk D Wx X) {e : Expr} {t : Tg} (h : tgOf D e = some t) : PG X e (tTg D.K t) := by
  unfold tgOf at h
  split at h
  · obtain ⟨is, h1, rfl⟩ := Option.map_eq_some_iff.mp h
    obtain ⟨a, b, d⟩ := pgs_names o c h1
    rw [← c.K]
    exact pg_or (pg_tup (c.hot hc) a b d) (pg_lst (c.hot hc) a b d)
  · obtain ⟨i, h1, rfl⟩ := Option.map_eq_some_iff.mp h
    obtain ⟨x, p, rfl, hl, hi⟩ := nameIx_some h1
    exact pg_name (by rw [c.N]; exact o.nd) (by rw [c.N]; exact hi) (loc_of c hl).1 (loc_of c hl).2
end
theorem wipe_get {σ : St} {vs : List Nat} {j : Nat} : (wipe σ vs)[j]? = if j ∈ vs then (if j < σ.length then some none else none) else σ[j]? := by
  induction vs with
  | nil => simp [wipe]
  | cons v vs ih =>
    unfold wipe
    by_cases e : v = j
    · subst e
      by_cases hl : v < σ.length
      · rw [List.getElem?_set_self (by rw [wipe_length]; exact hl), if_pos (List.mem_cons_self ..), if_pos hl]
      · rw [List.getElem?_eq_none (by rw [List.length_set, wipe_length]; omega), if_pos (List.mem_cons_self ..), if_neg hl]
    · rw [List.getElem?_set_ne e, ih]
      by_cases m : j ∈ vs
      · rw [if_pos m, if_pos (List.mem_cons_of_mem _ m)]
      · rw [if_neg m, if_neg (by simp only [List.mem_cons, not_or]; exact ⟨fun z => e z.symm, m⟩)]
theorem wipe_wipe {σ : St} {vl : List Nat} : wipe (wipe σ vl) vl = wipe σ vl := by
  refine List.ext_getElem? fun j => ?_
  rw [wipe_get, wipe_get, wipe_length]
  by_cases m : j ∈ vl
  · rw [if_pos m, if_pos m]
  · rw [if_neg m, if_neg m]
theorem wipe_set {σ : St} {vs : List Nat} {i : Nat} {x : Option V} (h : i ∈ vs) : wipe (σ.set i x) vs = wipe σ vs := by
  refine List.ext_getElem? fun j => ?_
  rw [wipe_get, wipe_get, List.length_set]
  by_cases m : j ∈ vs
  · rw [if_pos m, if_pos m]
  · rw [if_neg m, if_neg m, List.getElem?_set_ne (fun z => m (by rw [← z]; exact h))]
theorem wipe_setAll : ∀ {is : List Nat} {xs : List V} {σ : St} {vs : List Nat}, (∀ i ∈ is, i ∈ vs) → wipe (setAllV σ is xs) vs = wipe σ vs
  | [], _, _, _, _ => by simp [setAllV]
  | _ :: _, [], _, _, _ => by simp [setAllV]
  | i :: is, x :: xs, σ, vs, h => by
    unfold setAllV
    rw [wipe_setAll fun j hj => h j (List.mem_cons_of_mem _ hj), wipe_set (h i (List.mem_cons_self ..))]
theorem setAll_length : ∀ {is : List Nat} {ws : List W} {τ : Tau}, (setAll τ is ws).length = τ.length
  | [], _, _ => by simp [setAll]
  | _ :: _, [], _ => by simp [setAll]
  | i :: is, w :: ws, τ => by unfold setAll; rw [setAll_length, List.length_set]
theorem setAllV_length : ∀ {is : List Nat} {ws : List V} {τ : St}, (setAllV τ is ws).length = τ.length
  | [], _, _ => by simp [setAllV]
  | _ :: _, [], _ => by simp [setAllV]
  | i :: is, w :: ws, τ => by unfold setAllV; rw [setAllV_length, List.length_set]
section
variable {B : Base} {E : XW} {F : Addr → Prop} {ρ : Nat → Addr} {stk : List Sl} {vstk : List (Option V)} {S : Store} {H : Hp} {C : List Addr}
theorem StR.len2 {τ : Tau} {σ : St} (hs : stk.length = vstk.length) (h : StR B F ρ (stk ++ τ) (vstk ++ σ) S H C) : τ.length = σ.length := by
  have := h.len
  simp only [List.length_append] at this
  omega
theorem StR.setVal {τ : Tau} {σ : St} (hs : stk.length = vstk.length) (h : StR B F ρ (stk ++ τ) (vstk ++ σ) S H C) (i : Nat) {w : W} {x : V} (r : Rep (gOf B F ρ S H) w x) : StR B F ρ (stk ++ τ.set i (.val w)) (vstk ++ σ.set i (some x)) S H C := by
  have hl := h.len2 hs
  refine h.patchS hs (by rw [List.length_set, List.length_set]; exact hl) fun j sl v e1 e2 => ?_
  by_cases q : i = j
  · subst q
    have hi : i < τ.length := by
      have := (List.getElem?_eq_some_iff.mp e1).1
      simpa using this
    rw [List.getElem?_set_self hi] at e1
    rw [List.getElem?_set_self (by omega)] at e2
    cases e1
    cases e2
    exact .inr (.inr ⟨w, x, rfl, rfl, r⟩)
  · rw [List.getElem?_set_ne q] at e1 e2
    exact .inl ⟨e1, e2⟩
theorem StR.setAll : ∀ {is : List Nat} {ws : List W} {xs : List V} {τ : Tau} {σ : St}, stk.length = vstk.length → StR B F ρ (stk ++ τ) (vstk ++ σ) S H C → Reps (gOf B F ρ S H) ws xs → StR B F ρ (stk ++ VM.setAll τ is ws) (vstk ++ setAllV σ is xs) S H C
  | [], _, _, _, _, _, h, _ => by simpa [VM.setAll, setAllV] using h
  | i :: is, [], xs, _, _, _, h, r => by
    unfold Reps at r
    subst r
    simpa [VM.setAll, setAllV] using h
  | i :: is, w :: ws, xs, τ, σ, hs, h, r => by
    unfold Reps at r
    obtain ⟨x, xs, rfl, r1, r2⟩ := r
    unfold VM.setAll setAllV
    exact StR.setAll hs (h.setVal hs i r1) r2
/-- a value goes to a target -/
theorem sim_tg {K : PySem.W.Frag} (hK : B.K = K) {t : Tg} {w : W} {x : V} {τ τ' : Tau} {σ : St} {Q : St → Hp → Prop} (hs : stk.length = vstk.length) (h : StR B F ρ (stk ++ τ) (vstk ++ σ) S H C) (r : Rep (gOf B F ρ S H) w x) (e : t.put w τ = some τ')
    (k : ∀ σ', (∀ vs, (∀ i ∈ t.slots, i ∈ vs) → wipe σ' vs = wipe σ vs) → StR B F ρ (stk ++ τ') (vstk ++ σ') S H C → Q σ' H) : tTg K t x σ H Q := by
  subst hK
  cases t with
  | one i =>
    cases e
    exact k _ (fun vs hv => wipe_set (hv i (List.mem_cons_self ..))) (h.setVal hs i r)
  | tup is =>
    cases w with
    | tup ws =>
      have e : (if ws.length = is.length then some (VM.setAll τ is ws) else none) = some τ' := e
      split at e
      · rename_i hl
        cases e
        unfold Rep at r
        obtain ⟨a, vs, rfl, q, r⟩ := r
        have hv : vs.length = is.length := by rw [← r.length]; exact hl
        exact .inl ⟨a, vs, rfl, q, hv, hv, k _ (fun us hu => wipe_setAll hu) (StR.setAll hs h r)⟩
      · cases e
    | lst ws =>
      have e : (if ws.length = is.length then some (VM.setAll τ is ws) else none) = some τ' := e
      split at e
      · rename_i hl
        cases e
        unfold Rep at r
        obtain ⟨a, vs, rfl, q, r⟩ := r
        have hv : vs.length = is.length := by rw [← r.length]; exact hl
        exact .inr ⟨a, vs, rfl, q.sq.sq, hv, hv, k _ (fun us hu => wipe_setAll hu) (StR.setAll hs h r)⟩
      · cases e
    | _ => cases e
end
/-- as a statement's target -/
def gTg (t : Tg) : DG := fun r τ S => match t with
  | .one i => gSet i r τ S
  | .tup is => (match r with
    | .val w => (match (Tg.tup is).put w τ with
      | some τ => .nx τ S
      | none => .no)
    | _ => .no)
section
variable {D : DC} {Wx : WX}
theorem vg_tg (o : DOk D) (hc : D.calm = true) {e : Expr} {t : Tg} (h : tgOf D e = some t) : VG D Wx e (gTg t) := by
  refine ⟨tTg D.K t, fun X c => pg_tg o hc c h, fun B E hK iw F ρ r v τ σ S H C Dn hr k => ?_⟩
  cases t with
  | one i =>
    have k : OP B E Dn (gSet i r τ S) := k
    unfold gSet at k
    cases e : r.out with
    | none => rw [e] at k; exact k.elim
    | some r' =>
      have er := out_eq e
      subst er
      have k : OP B E Dn (.nx (τ.set i r') S) := by
        have := k
        rw [e] at this
        exact this
      exact k _ H F ρ C (StR.assign i hr)
  | tup is =>
    cases r with
    | val w =>
      have k : OP B E Dn (match (Tg.tup is).put w τ with
        | some τ => .nx τ S
        | none => .no) := k
      cases e : (Tg.tup is).put w τ with
      | none => rw [e] at k; exact k.elim
      | some τ1 =>
        rw [e] at k
        obtain ⟨x, ex, rx⟩ := StR.top hr
        cases ex
        exact sim_tg (stk := []) (vstk := []) hK rfl (StR.pop hr) rx e fun σ' _ h' => k σ' H F ρ C h'
    | _ => exact k.elim

/-! ### comprehensions -/
def R.noEx {α : Type} (r : R α) : R α := match r with
  | .ok a τ S => .ok a τ S
  | _ => .no
def XNo : XW := fun _ _ _ => False
def WNo : WX := fun _ _ _ _ => False
theorem RP.noEx {α β : Type} {r : R α} {f : α → Tau → Store → R β} {P : β → Tau → Store → Prop} {E : XW} (h : RP (r.noEx.bind f) P E) : RP r (fun a τ S => RP (f a τ S) P E) XNo := by
  cases r with
  | ok a τ S => exact h
  | ex C τ S => exact h.elim
  | no => exact h.elim
theorem imp_no {B : Base} : Imp B XNo WNo := fun _ _ _ _ _ _ _ _ _ e => e.elim
def wipeT (τ : Tau) : List Nat → Tau
  | [] => τ
  | v :: vs => (wipeT τ vs).set v .no
theorem wipeT_length (τ : Tau) : ∀ vs : List Nat, (wipeT τ vs).length = τ.length
  | [] => rfl
  | v :: vs => by unfold wipeT; rw [List.length_set, wipeT_length τ vs]
theorem wipeT_get {σ : Tau} {vs : List Nat} {j : Nat} : (wipeT σ vs)[j]? = if j ∈ vs then (if j < σ.length then some .no else none) else σ[j]? := by
  induction vs with
  | nil => simp [wipeT]
  | cons v vs ih =>
    unfold wipeT
    by_cases e : v = j
    · subst e
      by_cases hl : v < σ.length
      · rw [List.getElem?_set_self (by rw [wipeT_length]; exact hl), if_pos (List.mem_cons_self ..), if_pos hl]
      · rw [List.getElem?_eq_none (by rw [List.length_set, wipeT_length]; omega), if_pos (List.mem_cons_self ..), if_neg hl]
    · rw [List.getElem?_set_ne e, ih]
      by_cases m : j ∈ vs
      · rw [if_pos m, if_pos (List.mem_cons_of_mem _ m)]
      · rw [if_neg m, if_neg (by simp only [List.mem_cons, not_or]; exact ⟨fun z => e z.symm, m⟩)]
/-- the slots vs as they were -/
def mend (τ τe : Tau) : List Nat → Tau
  | [] => τe
  | v :: vs => (mend τ τe vs).set v (τ.getD v .no)
theorem mend_length (τ τe : Tau) : ∀ vs : List Nat, (mend τ τe vs).length = τe.length
  | [] => rfl
  | v :: vs => by unfold mend; rw [List.length_set, mend_length τ τe vs]
theorem mend_get {τ τe : Tau} {vs : List Nat} {j : Nat} {sl : Sl} (h : (mend τ τe vs)[j]? = some sl) : (j ∈ vs ∧ sl = τ.getD j .no) ∨ (j ∉ vs ∧ τe[j]? = some sl) := by
  induction vs with
  | nil => exact .inr ⟨by simp, h⟩
  | cons v vs ih =>
    unfold mend at h
    by_cases e : v = j
    · subst e
      have hl : v < (mend τ τe vs).length := by
        have := (List.getElem?_eq_some_iff.mp h).1
        simpa using this
      rw [List.getElem?_set_self hl] at h
      cases h
      exact .inl ⟨List.mem_cons_self .., rfl⟩
    · rw [List.getElem?_set_ne e] at h
      rcases ih h with ⟨a, b⟩ | ⟨a, b⟩
      · exact .inl ⟨List.mem_cons_of_mem _ a, b⟩
      · exact .inr ⟨by simp only [List.mem_cons, not_or]; exact ⟨fun z => e z.symm, a⟩, b⟩
def Sl.plain : Sl → Bool
  | .no => true
  | .val _ => true
  | _ => false
def lcLoop (t : Tg) (vs : List Nat) (tt : DT) (te : DE) : List W → List W → Tau → Store → R (List W)
  | [], acc, τ, S => .ok acc τ S
  | w :: ws, acc, τ, S => (R.of (t.put w τ) τ S).bind fun τ1 _ S => (tt τ1 S).noEx.bind fun b τ2 S2 => match b with
    | true => (te τ2 S2).noEx.bind fun y τ3 S3 => (match y with
      | .val y => if (τ3.any Sl.isPk) = false ∧ acc.length < seqLine then lcLoop t vs tt te ws (acc ++ [y]) (wipeT τ3 vs) S3 else .no
      | _ => .no)
    | false => lcLoop t vs tt te ws acc (wipeT τ2 vs) S2
def dLc (di : DI) (t : Tg) (vs : List Nat) (tt : DT) (te : DE) : DE := fun τ S => (di τ S).bind fun p τ S => if (vs.all fun v => (τ.getD v .no).plain) = true ∧ (τ.any Sl.isPk) = false then
  (lcLoop t vs tt (dKeep te) p.2 [] (wipeT τ vs) S).bind fun acc τe S => .ok (.own (.lst acc)) (mend τ τe vs) S else .no
theorem StR.wipe {B : Base} {F ρ stk vstk τ σ S H C} (hs : stk.length = vstk.length) (h : StR B F ρ (stk ++ τ) (vstk ++ σ) S H C) (vs : List Nat) : StR B F ρ (stk ++ wipeT τ vs) (vstk ++ L2.wipe σ vs) S H C := by
  have hl := h.len2 hs
  refine h.patchS hs (by rw [wipeT_length, wipe_length]; exact hl) fun j sl v e1 e2 => ?_
  rw [wipeT_get] at e1
  rw [wipe_get] at e2
  by_cases m : j ∈ vs
  · rw [if_pos m] at e1
    split at e1
    · cases e1; exact .inr (.inl rfl)
    · cases e1
  · rw [if_neg m] at e1 e2
    exact .inl ⟨e1, e2⟩
theorem StR.mend {B B2 : Base} {F ρ stk vstk τ σ S H C F' ρ' stk' vstk' τe σe S' H' C'} (hs : stk.length = vstk.length) (hs' : stk'.length = vstk'.length) (h : StR B F ρ (stk ++ τ) (vstk ++ σ) S H C) (q : StR B2 F' ρ' (stk' ++ τe) (vstk' ++ σe) S' H' C')
    (le : (gOf B F ρ S H).le (gOf B2 F' ρ' S' H')) {vs : List Nat} (hp : (vs.all fun v => (τ.getD v .no).plain) = true) (hw : L2.wipe σe vs = L2.wipe σ vs) : StR B2 F' ρ' (stk' ++ VM.mend τ τe vs) (vstk' ++ σ) S' H' C' := by
  have hl := h.len2 hs
  have hl' := q.len2 hs'
  have hσ : σe.length = σ.length := by rw [← wipe_length σe vs, hw, wipe_length]
  refine q.patchS hs' (by rw [mend_length]; omega) fun j sl v e1 e2 => ?_
  rcases mend_get e1 with ⟨m, rfl⟩ | ⟨m, e1⟩
  · have pl := List.all_eq_true.mp hp j m
    have hj : j < τ.length := by
      have := (List.getElem?_eq_some_iff.mp e2).1
      omega
    have ej : τ[j]? = some (τ.getD j .no) := by
      rw [List.getD_eq_getElem?_getD, List.getElem?_eq_getElem hj] <;> rfl
    obtain ⟨v', e3, r⟩ := slot_val hs h ej
    rw [e2] at e3
    cases e3
    generalize τ.getD j .no = sl at pl r
    cases sl with
    | no => exact .inr (.inl rfl)
    | val w =>
      obtain ⟨x, rfl, r⟩ := r
      exact .inr (.inr ⟨w, x, rfl, rfl, Rep.le le _ _ r⟩)
    | own _ => cases pl
    | pk _ => cases pl
  · have z : (L2.wipe σe vs)[j]? = (L2.wipe σ vs)[j]? := by rw [hw]
    rw [wipe_get, wipe_get, if_neg m, if_neg m] at z
    exact .inl ⟨e1, by rw [z]; exact e2⟩
/-- a list that no entry is: under construction -/
structure Hid (F : Addr → Prop) (gs : List Sl) (gv : List (Option V)) (H : Hp) (C : List Addr) (D : Addr) (vs : List V) : Prop where
  at_ : H D = some (.lst vs)
  nF : ¬ F D
  nC : D ∉ C
  nO : ∀ (i : Nat) m, gs[i]? = some (.own m) → gv[i]? ≠ some (some (.ref D))
theorem Hid.step {B : Base} {F F' ρ ρ' gs gv gs' gv' S S' H H' C C' D vs} (h0 : StR B F ρ gs gv S H C) (d : Hid F gs gv H C D vs) (q : StR (B.re F ρ gs gv S H C) F' ρ' gs' gv' S' H' C') : Hid F' gs' gv' H' C' D vs := by
  have nA : D ∉ C ++ owns gs gv := fun z => by
    rcases List.mem_append.mp z with z | z
    · exact d.nC z
    · obtain ⟨i, m, e1, e2⟩ := of_owns z
      exact d.nO i m e1 e2
  have nN : H D ≠ none := by rw [d.at_]; simp
  refine ⟨q.keep D _ d.at_ nA, fun z => ?_, fun z => ?_, fun i m e1 e2 => ?_⟩
  · rcases q.fN D z with y | y | y
    · exact d.nF y
    · exact nA y
    · exact nN y
  · rcases q.cN D z with y | y
    · exact nA y
    · exact nN y
  · rcases q.oN i m D e1 e2 with y | y
    · exact nA y
    · exact nN y
theorem StR.hidUpd {B : Base} {F ρ gs gv S H C D vs} {o' : HO} (h : StR B F ρ gs gv S H C) (d : Hid F gs gv H C D vs) (np : ∀ (i : Nat) w, gs[i]? = some (.pk w) → gv[i]? ≠ some (some (.ref D))) (old : D ∈ B.A0 ∨ B.H0 D = none) : StR B F ρ gs gv S (upd H D o') C := by
  have le : (gOf B F ρ S H).le (gOf B F ρ S (upd H D o')) := ⟨rfl, Nat.le_refl _, fun _ _ => rfl, fun _ q => q, fun b o e st => by
    by_cases q : b = D
    · subst q
      have e : H b = some o := e
      rw [d.at_] at e
      cases e
      exact (d.nF (st.notM trivial)).elim
    · show upd H D o' b = some o
      rw [upd_ne q]; exact e⟩
  have ne : ∀ {b : Addr}, b ≠ D → upd H D o' b = H b := fun q => upd_ne q
  refine ⟨h.len, fun j sl v q1 q2 => ?_, h.uniq, h.nF, h.nC, h.pC, h.cel.le le fun b hb o q => ?_, h.cnd, h.cF, fun b hb => ?_, fun b hb => ?_, fun b o q n => ?_, h.fF, h.fN, h.cN, h.oN, h.rho, h.nx⟩
  · refine (h.ent j sl v q1 q2).le le fun b o ev k z => ?_
    show upd H D o' b = some o
    rw [ne]
    · exact z
    · intro z
      subst z
      subst ev
      rcases k with ⟨m1, rfl⟩ | ⟨w, rfl⟩
      · exact d.nO j m1 q1 q2
      · exact np j w q1 q2
  · show upd H D o' b = some o
    rw [ne (fun z => d.nC (by rw [← z]; exact hb))]; exact q
  · rw [ne (fun z => d.nC (by rw [← z]; exact hb))]; exact h.cH b hb
  · rw [ne (fun z => d.nF (by rw [← z]; exact hb))]; exact h.fT b hb
  · have : b ≠ D := fun z => by
      subst z
      rcases old with y | y
      · exact n y
      · rw [y] at q; cases q
    rw [ne this]; exact h.keep b o q n
theorem StR.hidPush {B : Base} {F ρ gs gv S H C D vs} {acc : List W} (h : StR B F ρ gs gv S H C) (d : Hid F gs gv H C D vs) (old : D ∈ B.A0 ∨ B.H0 D = none) (r : Reps (gOf B F ρ S H) acc vs) : StR B F ρ (.own (.lst acc) :: gs) (some (.ref D) :: gv) S H C := by
  refine ⟨by simp [h.len], fun i sl x e1 e2 => ?_, fun i j m1 m' a e1 e2 e3 e4 => ?_, fun i m a e1 e2 => ?_, fun i m a e1 e2 => ?_, fun i m a e1 e2 => ?_, h.cel, h.cnd, h.cF, h.cH, h.fT, h.keep, h.fF, h.fN, h.cN, fun i m a e1 e2 => ?_, h.rho, h.nx⟩
  · cases i with
    | zero => cases e1; cases e2; exact ⟨D, rfl, vs, d.at_, r⟩
    | succ i => exact h.ent i sl x e1 e2
  · cases i with
    | zero =>
      cases e2
      cases j with
      | zero => rfl
      | succ j => exact (d.nO j m' e3 e4).elim
    | succ i =>
      cases j with
      | zero => cases e4; exact (d.nO i m1 e1 e2).elim
      | succ j => rw [h.uniq i j m1 m' a e1 e2 e3 e4]
  · cases i with
    | zero => cases e2; exact d.nF
    | succ i => exact h.nF i m a e1 e2
  · cases i with
    | zero => cases e2; exact d.nC
    | succ i => exact h.nC i m a e1 e2
  · cases i with
    | zero => cases e1
    | succ i => exact h.pC i m a e1 e2
  · cases i with
    | zero => cases e2; exact old
    | succ i => exact h.oN i m a e1 e2
theorem no_pkS {stk : List Sl} {vstk : List (Option V)} {τ : Tau} {σ : St} {A : Addr} (hs : stk.length = vstk.length) (h1 : ∀ (i : Nat) w, stk[i]? = some (.pk w) → vstk[i]? ≠ some (some (.ref A))) (h2 : (τ.any Sl.isPk) = false) : ∀ (i : Nat) w, (stk ++ τ)[i]? = some (.pk w) → (vstk ++ σ)[i]? ≠ some (some (.ref A)) := fun i w e1 e2 => by
  rcases get_stk (t' := τ) e1 with ⟨a, _⟩ | ⟨a, q1⟩
  · rw [List.getElem?_append_left a] at e1
    rw [List.getElem?_append_left (by omega)] at e2
    exact h1 i w e1 e2
  · exact no_pk h2 _ w q1
theorem sim_lc {B : Base} {E : XW} {K : PySem.W.Frag} (hK : B.K = K) {t : Tg} {vl : List Nat} {g1 : TT} {tt : DT} {te : TE} {de : DE} {ws : List W} {J : It} {Dd : Addr} {stk : List Sl} {vstk : List (Option V)} {σ : St} {Q : Hp → Prop} {P : List W → Tau → Store → Prop}
    (st : ∀ B : Base, B.K = K → SimT B XNo g1 tt) (se : ∀ B : Base, B.K = K → Sim B XNo te de) (hts : ∀ i ∈ t.slots, i ∈ vl) (hs : stk.length = vstk.length) (hY : ∀ F ρ τ σ S H C, StR B F ρ (stk ++ τ) (vstk ++ σ) S H C → (∀ (i : Nat) w, ws[i]? = some w → J.go i H ∧ ∀ x H', J.yld i H x H' → Ext H H' ∧ Rep (gOf B F ρ S H') w x) ∧ J.stop ws.length H)
    (hpk : ∀ (i : Nat) w, stk[i]? = some (.pk w) → vstk[i]? ≠ some (some (.ref Dd))) (old : Dd ∈ B.A0 ∨ B.H0 Dd = none)
    (fin : ∀ F ρ τ S H C acc vs, StR B F ρ (stk ++ τ) (vstk ++ wipe σ vl) S H C → Hid F (stk ++ τ) (vstk ++ wipe σ vl) H C Dd vs → Reps (gOf B F ρ S H) acc vs → P acc τ S → Q H)
    {F ρ τ S H C} (h : StR B F ρ (stk ++ τ) (vstk ++ wipe σ vl) S H C) (d : Hid F (stk ++ τ) (vstk ++ wipe σ vl) H C Dd []) (hpt : (τ.any Sl.isPk) = false) (k : RP (lcLoop t vl tt de ws [] τ S) P E) :
    ∃ Wm : Nat → Nat → Hp → Prop, (∃ m, Wm 0 m H) ∧ ∀ i m H, Wm i m H →
      (J.stop i H ∧ Q H) ∨ (J.go i H ∧ ∃ Nx : Hp → Prop, (∀ H', Nx H' → ∃ m', m' < m ∧ Wm (i + 1) m' H') ∧ ∀ x H', J.yld i H x H' → tTg K t x (wipe σ vl) H' fun σ2 H2 => wipe σ2 vl = wipe σ vl ∧ g1 σ2 H2 fun b H3 =>
        if b = true then te σ2 H3 fun y H4 => ∃ acc, H4 Dd = some (.lst acc) ∧ acc.length < sizeLine ∧ Nx (upd H4 Dd (.lst (acc ++ [y]))) else Nx H3) := by
  refine ⟨fun i m H => m = ws.length - i ∧ i ≤ ws.length ∧ ∃ τ S F ρ C acc vs, StR B F ρ (stk ++ τ) (vstk ++ wipe σ vl) S H C ∧ Hid F (stk ++ τ) (vstk ++ wipe σ vl) H C Dd vs ∧ Reps (gOf B F ρ S H) acc vs ∧ RP (lcLoop t vl tt de (ws.drop i) acc τ S) P E,
    ⟨ws.length, by simp, Nat.zero_le _, τ, S, F, ρ, C, [], [], h, d, Reps.nil, k⟩, ?_⟩
  rintro i m H ⟨rfl, hi, τ, S, F, ρ, C, acc, vs, h, d, r, k⟩
  obtain ⟨Y1, Y2⟩ := hY F ρ τ _ S H C h
  by_cases hlt : i < ws.length
  · obtain ⟨go, yl⟩ := Y1 i ws[i] (by simp [hlt])
    refine .inr ⟨go, fun H' => ∃ τ S F ρ C acc vs, StR B F ρ (stk ++ τ) (vstk ++ wipe σ vl) S H' C ∧ Hid F (stk ++ τ) (vstk ++ wipe σ vl) H' C Dd vs ∧ Reps (gOf B F ρ S H') acc vs ∧ RP (lcLoop t vl tt de (ws.drop (i + 1)) acc τ S) P E,
      fun H' n => ⟨ws.length - (i + 1), by omega, rfl, hlt, n⟩, fun x H' y => ?_⟩
    obtain ⟨ex, rx⟩ := yl x H' y
    rw [List.drop_eq_getElem_cons hlt] at k
    unfold lcLoop at k
    obtain ⟨τ1, e1, k⟩ := k.bind.of
    have h' := h.heap ex
    have d' : Hid F (stk ++ τ) (vstk ++ wipe σ vl) H' C Dd vs := ⟨ex _ _ d.at_, d.nF, d.nC, d.nO⟩
    have r' := Reps.le (G.le_ext (g := gOf B F ρ S H) ex) _ _ r
    have hr := h'.re
    refine sim_tg (B := B.re F ρ (stk ++ τ) (vstk ++ wipe σ vl) S H' C) hK hs hr rx e1 fun σ2 hw h2 => ?_
    have hw2 : wipe σ2 vl = wipe σ vl := by rw [hw vl hts, wipe_wipe]
    refine ⟨hw2, ?_⟩
    refine st (B.re F ρ (stk ++ τ) (vstk ++ wipe σ vl) S H' C) hK F ρ stk vstk τ1 σ2 S H' C _ hs h2 (RP.noEx k |>.mono fun b τ2 S2 k H2 F2 ρ2 C2 h2 => ?_)
    have dn : ∀ {F' ρ' gs' gv' S' H'' C'}, StR (B.re F ρ (stk ++ τ) (vstk ++ wipe σ vl) S H' C) F' ρ' gs' gv' S' H'' C' → Hid F' gs' gv' H'' C' Dd vs := fun q => Hid.step h' d' q
    cases b with
    | false =>
      refine Eq.mpr (if_neg Bool.false_ne_true) ?_
      have h3 := (h'.unre h2).wipe hs vl
      rw [hw2] at h3
      have d2 := dn h2
      refine ⟨wipeT τ2 vl, S2, F2, ρ2, C2, acc, vs, h3, ⟨d2.at_, d2.nF, d2.nC, fun j m e1 e2 => ?_⟩, Reps.le (h'.le_re h2) _ _ r', k⟩
      rcases h3.oN j m Dd e1 e2 with _ | _ <;> exact (Hid.step h' d' (h2.wipe hs vl)).nO j m e1 (by rw [hw2]; exact e2)
    | true =>
      refine Eq.mpr (if_pos rfl) ?_
      refine se (B.re F ρ (stk ++ τ) (vstk ++ wipe σ vl) S H' C) hK F2 ρ2 stk vstk τ2 σ2 S2 H2 C2 _ hs h2 (RP.noEx k |>.mono fun y τ3 S3 k v H3 F3 ρ3 C3 h3 => ?_)
      cases y with
      | val y =>
        have k : RP (if (τ3.any Sl.isPk) = false ∧ acc.length < seqLine then lcLoop t vl tt de (ws.drop (i + 1)) (acc ++ [y]) (wipeT τ3 vl) S3 else .no) P E := k
        split at k
        · rename_i hz
          obtain ⟨v', ev, rv⟩ := StR.top h3
          cases ev
          have h4 := StR.pop h3
          have d4 := dn h4
          have r4 := Reps.le (h'.le_re h3) _ _ r'
          refine ⟨vs, d4.at_, by rw [← r.length]; exact Nat.lt_of_lt_of_le hz.2 seqLine_le, ?_⟩
          have h5 : StR B F3 ρ3 (stk ++ τ3) (vstk ++ σ2) S3 H3 C3 := h'.unre h4
          have np := no_pkS (σ := σ2) hs hpk hz.1
          have h6 := h5.hidUpd (o' := .lst (vs ++ [v])) d4 np old
          have h7 := h6.wipe hs vl
          rw [hw2] at h7
          have lq : (gOf B F3 ρ3 S3 H3).le (gOf B F3 ρ3 S3 (upd H3 Dd (.lst (vs ++ [v])))) := le_own (g := gOf B F3 ρ3 S3 H3) (m := .lst acc) (a := Dd) ⟨vs, d4.at_, r4⟩ d4.nF _
          refine ⟨wipeT τ3 vl, S3, F3, ρ3, C3, acc ++ [y], vs ++ [v], h7, ⟨upd_same, d4.nF, d4.nC, fun j m e1 e2 => ?_⟩, Reps.append (Reps.le lq _ _ r4) (Reps.cons (Rep.le lq _ _ rv) Reps.nil), k⟩
          exact (Hid.step h' d' (h4.wipe hs vl)).nO j m e1 (by rw [hw2]; exact e2)
        · exact k.elim
      | _ => exact k.elim
  · have e : i = ws.length := by omega
    subst e
    rw [List.drop_length] at k
    exact .inl ⟨Y2, fin F ρ τ S H C acc vs h d r k⟩
end
end VM

set_option Elab.async false
set_option linter.all false
/-! VM11: comprehensions in a context. -/
namespace VM
open PySem PySem.Spec L2
open PyProof.Rows hiding St

/-- the data of a comprehension's block -/
def DC.blk (D : DC) (scope : Scope) : DC := { D with sc := relS scope D.sc, fnn := fun x => scope.names.lookup x == some .cell, top := false }
section
variable {D : DC} {Wx : WX}
theorem CxOk.blk {X : Cx} {scope : Scope} (c : CxOk D Wx X) (hk : scope.kind = .function) (s : Shared) (H : Hp) (C : Addr) (cl : List (Str × Addr)) (fp : List Addr) : CxOk (D.blk scope) WNo (X.blk s H scope (compEnvC scope cl C X.env) fp) where
  K := c.K
  prog := c.prog
  w := c.w
  mg := c.mg
  base := c.base
  N := c.N
  sc := by
    show relabel scope X.env = relS scope D.sc
    rw [← c.sc] <;> rfl
  kind := hk
  un := c.un
  room := c.room
  hot := c.hot
  fn := fun x h => h
  tk := takes_none5
  pass := PassesOwn.never
  stk := fun h => by cases h
theorem DOk.blk {scope : Scope} (o : DOk D) : DOk (D.blk scope) := ⟨o.nd, fun x f n h => ⟨(o.fns x f n h).ex, (o.fns x f n h).len⟩, o.gls, o.free, fun C h => ⟨(o.ecs C h).mg, (o.ecs C h).exc, (o.ecs C h).keep, (o.ecs C h).sub, (o.ecs C h).ty, (o.ecs C h).is⟩, fun x t h => by have := o.cvs x t h; cases t <;> exact this, o.isT, o.exm, fun C m f n h => ⟨(o.mth C m f n h).cls, (o.mth C m f n h).ex, (o.mth C m f n h).len⟩, fun C f h => ⟨(o.fld C f h).cls, (o.fld C f h).no⟩, fun x f n h => ⟨(o.mkr x f n h).lev, (o.mkr x f n h).ex, (o.mkr x f n h).len, (o.mkr x f n h).shape⟩⟩
/-- the places of a block's own names -/
def ownOf (N : List Str) (scope : Scope) : List (Str × Nat) := scope.names.filterMap fun p => match p.2 with
  | .local => (N.findIdx? (· == p.1)).map fun i => (p.1, i)
  | .cell => (N.findIdx? (· == p.1)).map fun i => (p.1, i)
  | _ => none
def VTs (D : DC) (Wx : WX) (ifs : List Expr) (d : DT) : Prop := ∃ t0, (∀ X, CxOk D Wx X → PTs X ifs t0) ∧ ∀ B E, B.K = D.K → Imp B E Wx → SimT B E t0 d
def dYes : DT := fun τ S => .ok true τ S
theorem vts_nil : VTs D Wx [] dYes := ⟨_, fun X c => pts_nil, fun B E hK iw F ρ stk vstk τ σ S H C Q hl h k => k H F ρ C h⟩
theorem vts_one {e : Expr} {d : DT} (h : VT D Wx e d) : VTs D Wx [e] d := by
  obtain ⟨t, p, s⟩ := h
  exact ⟨t, fun X c => pts_one (p X c), s⟩
theorem fresh_hid {B : Base} {F ρ gs gv S H C} {Dd : Addr} (h : StR B F ρ gs gv S H C) (hD : H Dd = none) : Hid F gs gv (upd H Dd (.lst [])) C Dd [] :=
  ⟨upd_same, fun z => h.fT Dd z hD, fun z => h.cH Dd z hD, fun i m e1 e2 => by
    obtain ⟨a, ea, own⟩ := h.ent i _ _ e1 e2
    cases ea
    exact own.tr hD⟩
theorem fresh_pk {B : Base} {F ρ gs gv S H C} {Dd : Addr} (h : StR B F ρ gs gv S H C) (hD : H Dd = none) (i : Nat) (w : W) (e1 : gs[i]? = some (.pk w)) : gv[i]? ≠ some (some (.ref Dd)) := fun e2 => by
  obtain ⟨x, ex, _, tr⟩ := h.ent i _ _ e1 e2
  cases ex
  exact tr Dd rfl hD
theorem wipeT_pk {τ : Tau} {vl : List Nat} (h : (τ.any Sl.isPk) = false) : ((wipeT τ vl).any Sl.isPk) = false := by
  rw [List.any_eq_false]
  intro x hx
  obtain ⟨j, hj⟩ := List.getElem?_of_mem hx
  rw [wipeT_get] at hj
  by_cases m : j ∈ vl
  · rw [if_pos m] at hj
    split at hj
    · cases hj; exact fun z => nomatch z
    · cases hj
  · rw [if_neg m] at hj
    exact List.any_eq_false.mp h x (List.mem_of_getElem? hj)
/-- as a reading -/
theorem sim_dLc {B : Base} {E : XW} (hK : B.K = D.K) {t : Tg} {vl : List Nat} {wi : TI} {di : DI} {g1 : TT} {tt : DT} {te : TE} {de : DE} (si : SimI B E wi di) (st : ∀ B : Base, B.K = D.K → SimT B XNo g1 tt) (se : ∀ B : Base, B.K = D.K → Sim B XNo te de) (hts : ∀ i ∈ t.slots, i ∈ vl) :
    Sim B E (tLc wi (tTg D.K t) g1 te vl) (dLc di t vl tt de) := by
  intro F ρ stk vstk τ σ S H C Q hl h k
  refine si F ρ stk vstk τ σ S H C _ hl h (RP.bind k |>.mono fun p τ1 S1 k J v H1 F1 ρ1 C1 h1 y => fun Dd hD => ?_)
  obtain ⟨e, ws⟩ := p
  have k : RP (if (vl.all fun v => (τ1.getD v .no).plain) = true ∧ (τ1.any Sl.isPk) = false then (lcLoop t vl tt (dKeep de) ws [] (wipeT τ1 vl) S1).bind fun acc τe S => .ok (.own (.lst acc)) (mend τ1 τe vl) S else .no) (Post B stk vstk σ Q) E := k
  split at k
  · rename_i hp
    have h1 : StR B F1 ρ1 ((e :: stk) ++ τ1) ((some v :: vstk) ++ σ) S1 H1 C1 := h1
    have hl1 : (e :: stk).length = (some v :: vstk).length := by simp [hl]
    have hr := h1.re
    have hn : StR (B.re F1 ρ1 ((e :: stk) ++ τ1) ((some v :: vstk) ++ σ) S1 H1 C1) F1 ρ1 ((e :: stk) ++ τ1) ((some v :: vstk) ++ σ) S1 (upd H1 Dd (.lst [])) C1 := hr.new hD
    have hw := hn.wipe hl1 vl
    have dw : Hid F1 ((e :: stk) ++ wipeT τ1 vl) ((some v :: vstk) ++ wipe σ vl) (upd H1 Dd (.lst [])) C1 Dd [] := fresh_hid (hr.wipe hl1 vl) hD
    refine sim_lc (B := B.re F1 ρ1 ((e :: stk) ++ τ1) ((some v :: vstk) ++ σ) S1 H1 C1) (E := E) (Q := fun H => Q (.ref Dd) H) (stk := e :: stk) (vstk := some v :: vstk) hK st (fun B' hB => sim_keep (se B' hB)) hts hl1 (fun F ρ τ σ S H C q => y _ F ρ (stk ++ τ) (vstk ++ σ) S H C rfl q) (fun i w e => ?_) (.inr hD) (fun F2 ρ2 τ2 S2 H2 C2 acc vs h2 d2 r2 k2 => ?_) hw dw (wipeT_pk hp.2) (RP.bind k)
    · have := fresh_pk hr hD i w (by rw [List.getElem?_append_left (List.getElem?_eq_some_iff.mp e).1]; exact e)
      intro z
      exact this (by rw [List.getElem?_append_left (List.getElem?_eq_some_iff.mp z).1]; exact z)
    · have h2' : StR (B.re F1 ρ1 ((e :: stk) ++ τ1) ((some v :: vstk) ++ σ) S1 H1 C1) F2 ρ2 (stk ++ τ2) (vstk ++ wipe σ vl) S2 H2 C2 := StR.pop h2
      have d2' : Hid F2 (stk ++ τ2) (vstk ++ wipe σ vl) H2 C2 Dd vs := ⟨d2.at_, d2.nF, d2.nC, fun i m e1 e2 => d2.nO (i + 1) m e1 e2⟩
      have h3 := h2'.hidPush d2' (.inr hD) r2
      have h1' : StR B F1 ρ1 (stk ++ τ1) (vstk ++ σ) S1 H1 C1 := StR.pop h1
      have h4 := StR.mend (stk' := .own (.lst acc) :: stk) (vstk' := some (.ref Dd) :: vstk) hl (by simp [hl]) h1' h3 (h1.le_re h2) hp.1 wipe_wipe
      exact k2 (.ref Dd) H2 F2 ρ2 C2 (h1.unre h4)
  · exact k.elim
/-- what must hold of a comprehension's scope -/
def lcC (D : DC) (scope : Scope) (t : Tg) : Bool := blkC D.N D.sc scope (ownOf D.N scope) && (t.slots.all fun i => decide (i ∈ (ownOf D.N scope).map (·.2)))
theorem blk_kind {N : List Str} {sc scope : Scope} {own : List (Str × Nat)} (h : blkC N sc scope own = true) : scope.kind = .function := (blkOk_by h).kind
theorem ve_lc {elt tg iter : Expr} {ifs : List Expr} {scope : Scope} {pos : Pos} {di : DI} {t : Tg} {tt : DT} {de : DE} (o : DOk D) (hc : D.calm = true) (hi : VI D Wx tg iter di) (hs : lcC D scope t = true) (ht : tgOf (D.blk scope) tg = some t)
    (hT : VTs (D.blk scope) WNo ifs tt) (he : VE (D.blk scope) WNo elt de) (hf : ∀ env x, foldedSetIterable iter env x = pure x) : VE D Wx (.ListComp elt [⟨tg, iter, ifs, 0⟩] scope pos) (dLc di t ((ownOf D.N scope).map (·.2)) tt de) := by
  obtain ⟨wi, pi, si⟩ := hi
  obtain ⟨g1, pt, st⟩ := hT
  obtain ⟨te, pe, se⟩ := he
  unfold lcC at hs
  rw [Bool.and_eq_true] at hs
  have ok := blkOk_by hs.1
  refine ⟨tLc wi (tTg D.K t) g1 te ((ownOf D.N scope).map (·.2)), fun X c => ?_, fun B E hK iw => sim_dLc hK (si B E hK iw) (fun B' hB => st B' XNo hB imp_no) (fun B' hB => se B' XNo hB imp_no) fun i hi => ?_⟩
  · have ok' : BlkOk X.N X.env.scope scope (ownOf D.N scope) := by rw [c.N, c.sc]; exact ok
    exact pe_lc (c.hot hc) (by rw [c.N]; exact o.nd) (pi X c) ok' (fun s H C cl fp => pg_tg (D := D.blk scope) o.blk hc (c.blk ok.kind s H C cl fp) ht) (fun s H C cl fp => pt _ (c.blk ok.kind s H C cl fp)) (fun s H C cl fp => pe _ (c.blk ok.kind s H C cl fp)) (hf _)
  · have := List.all_eq_true.mp hs.2 i hi
    simpa using this
/-- x = [..] on one line -/
def swC (D : DC) (y : Str) (py pos : Pos) (scope : Scope) : Bool := D.sc.names.lookup y == some .local && (py.line == pos.line) && !(scope.names.any fun (n, k) => n == y && (k == .local || k == .cell))
theorem vs_setLc {i : Nat} {y : Str} {py : Pos} {elt tg iter : Expr} {ifs : List Expr} {scope : Scope} {pos spos : Pos} {di : DI} {t : Tg} {tt : DT} {de : DE} (o : DOk D) (hc : D.calm = true) (hy : D.N[i]? = some y) (hsw : swC D y py pos scope = true)
    (hi : VI D Wx tg iter di) (hs : lcC D scope t = true) (ht : tgOf (D.blk scope) tg = some t)
    (hT : VTs (D.blk scope) WNo ifs tt) (he : VE (D.blk scope) WNo elt de) (hf : ∀ env x, foldedSetIterable iter env x = pure x) :
    VS D Wx (.Assign [.Name y py] (.ListComp elt [⟨tg, iter, ifs, 0⟩] scope pos) spos) (dAsg (dLc di t ((ownOf D.N scope).map (·.2)) tt de) (gSet i)) := by
  obtain ⟨wi, pi, si⟩ := hi
  obtain ⟨g1, pt, st⟩ := hT
  obtain ⟨te, pe, se⟩ := he
  unfold lcC at hs
  rw [Bool.and_eq_true] at hs
  have ok := blkOk_by hs.1
  unfold swC at hsw
  rw [Bool.and_eq_true, Bool.and_eq_true] at hsw
  obtain ⟨⟨s1, s2⟩, s3⟩ := hsw
  have s1 : D.sc.names.lookup y = some .local := by simpa using s1
  refine ⟨tAsg (tLc wi (tTg D.K t) g1 te ((ownOf D.N scope).map (·.2))) (gName i), fun X c => ?_, fun B E hK iw F ρ τ σ S H C Dn h k => ?_⟩
  · have ok' : BlkOk X.N X.env.scope scope (ownOf D.N scope) := by rw [c.N, c.sc]; exact ok
    exact ps_setLc (c.hot hc) (by rw [c.N]; exact o.nd) (by rw [c.N]; exact hy) (by rw [c.sc]; exact s1) (sw_true c.kind (by rw [c.sc]; exact s1) s2 (by simpa using s3)) (pi X c) ok'
      (fun s H C cl fp => pg_tg (D := D.blk scope) o.blk hc (c.blk ok.kind s H C cl fp) ht) (fun s H C cl fp => pt _ (c.blk ok.kind s H C cl fp)) (fun s H C cl fp => pe _ (c.blk ok.kind s H C cl fp)) (hf _)
  · have sm := sim_dLc (E := E) hK (si B E hK iw) (fun B' hB => st B' XNo hB imp_no) (fun B' hB => se B' XNo hB imp_no) fun i hi => (by have := List.all_eq_true.mp hs.2 i hi; simpa using this : i ∈ (ownOf D.N scope).map (·.2))
    refine SimS.ex (fun F ρ τ σ S H C Q h k => sm F ρ [] [] τ σ S H C Q rfl h k) h k.thenS fun r τ' S' v H' F' ρ' C' p h' => ?_
    unfold gSet at p
    cases e : r.out with
    | none => rw [e] at p; exact p.elim
    | some r' =>
      have er := out_eq e
      subst er
      rw [e] at p
      exact p _ H' F' ρ' C' (StR.assign i h')
end
end VM

set_option Elab.async false
set_option linter.all false
set_option maxRecDepth 100000
/-! VM12: try, its exception's object kept. -/
namespace VM
open PySem PySem.Spec L2
open PyProof.Rows hiding St

/-- the context of an except suite, the object tracked -/
abbrev suiteT (X : Cx) (a : Addr) (pn : List (Addr × Obj)) : Cx := { X with A := X.A.mark (some (.ref a)), calm := false, pn := pn, xe := fun _ _ => False }
theorem okT {X : Cx} (ok : X.Ok) (a : Addr) (pn : List (Addr × Obj)) : (suiteT X a pn).Ok :=
  ⟨ok.mod, ok.kind, ok.glob, ok.blt, ok.above, ok.inj, ok.has, ok.cab, (fun z => absurd (show false = true from z) Bool.false_ne_true), ok.frames, ok.stk, ok.exf, ok.bs, ok.bsz, ok.noex, ok.exfs, ok.funs, ok.frf⟩
theorem ExT.ok {P : Program} {w : World} {H : Hp} {h : Heap} {a C : Addr} {o : Obj} {vs : Array Value} (e : h.get? a = some o) (z : Zc (.ref C) none o) (d : o.data = .fields vs) : ObjOk P w H h a (ExT a C) :=
  ⟨⟨o, e, z, vs, d⟩, ⟨o, e⟩, fun h1 h2 ⟨o, e, q⟩ k => ⟨o, k o e, q⟩⟩
section
variable {X : Cx} {pins : List (Addr × Obj)} {σ : St} {H : Hp} {s : Shared}
/-- an object that was nobody's is tracked -/
theorem track {a C : Addr} {o : Obj} {vs : Array Value} (I : Inv X pins σ H s) (e : s.heap.get? a = some o) (z : Zc (.ref C) none o) (d : o.data = .fields vs) (na : H a = none) (nL : a ≠ X.env.locals) (n0 : X.s_0.heap.get? a = none) (np : ∀ p ∈ X.pn ++ pins, p.1 ≠ a) :
    Inv (suiteT X a (X.pn ++ pins)) [] σ (upd H a (ExT a C)) s := by
  have ne : ∀ {b : Addr}, b ≠ a → upd H a (ExT a C) b = H b := fun q => upd_ne q
  have kp : ∀ {b : Addr} {u : HO}, H b = some u → upd H a (ExT a C) b = some u := fun {b u} q => by rw [ne (fun z => by rw [z, na] at q; cases q)]; exact q
  refine ⟨okT I.ok a _, I.os, I.bare, ⟨I.base.keep, I.base.slot, fun b ob q n hx => ?_, I.base.there, fun b xs q => kp (I.base.tups b xs q), fun b ob u q => kp (I.base.frzs b ob u q), fun b ps q => ?_⟩, I.loc, I.cell, ?_, fun x c q => ?_, fun p hp => ?_, fun b u q => ?_, I.len⟩
  · rw [ne (fun z => by rw [z, n0] at q; cases q)]
    exact I.base.free b ob q n hx
  · obtain ⟨more, m⟩ := I.base.tbls b ps q
    exact ⟨more, kp m⟩
  · show upd H a (ExT a C) X.env.locals = none
    rw [ne (fun z => nL z.symm)]; exact I.free
  · show upd H a (ExT a C) c = none
    rw [ne]
    · exact I.freeC x c q
    · rintro rfl
      obtain ⟨v, hv⟩ := I.cell x c q
      obtain ⟨oc, e1, e2⟩ := hv
      rw [e] at e1
      cases e1
      rw [d] at e2
      cases e2
  · have hp' : p ∈ X.pn ++ pins := by simpa using hp
    obtain ⟨p1, p2, p3, p4, p5⟩ := I.pin p hp'
    exact ⟨p1, by rw [ne (np p hp')]; exact p2, p3, p4, p5⟩
  · by_cases hb : b = a
    · subst hb
      rw [upd_same] at q
      cases q
      exact ExT.ok e z d
    · rw [ne hb] at q
      exact (I.hok b u q).stay (fun _ _ _ q => q) (fun c q => kp q) fun c xs q => kp q
theorem untrack {a : Addr} {pn' : List (Addr × Obj)} (I : Inv (suiteT X a (X.pn ++ pins)) pn' σ H s) (ok : X.Ok) : Inv X pins σ H s :=
  ⟨ok, I.os, I.bare, I.base, I.loc, I.cell, I.free, I.freeC, fun p hp => I.pin p (List.mem_append_left _ hp), I.hok, I.len⟩
end
/-- what the clause wishes -/
def wAsT (K : PySem.W.Frag) (c : Value) (i : Nat) (ts : TS) (Wout : WX) (D : Ends) : WX := fun cls d σ H =>
  ∃ b, PySem.W.exmOne K cls c = some b ∧ (b = true → d = none ∧ ∃ C, cls = .ref C ∧ ∀ a, H a = none → ts { nx := fun σ' H' => D.nx (σ'.set i none) H', rt := D.rt, bk := fun σ' H' => D.bk (σ'.set i none) H', ct := fun σ' H' => D.ct (σ'.set i none) H' } (σ.set i (some (.ref a))) (upd H a (ExT a C))) ∧
    (b = false → Wout cls d σ H)
/-- an exception's object that left no trace in the ground: what the frame of X knows of it -/
structure Air (X : Cx) (a : Addr) (G : Heap) (si : Shared) (pl : List (Addr × Obj)) (τ : St) (K : Hp) (cls : Value) (d : Option Addr) (t : Shared) : Prop where
  inv : Inv X pl τ K si
  gr : ∀ b o, si.heap.get? b = some o → b ∉ frs X.stack → G.get? b = some o
  way : si.heap.UpToSlots t.heap
  off : K a = none
  sys : t.os = si.os
  bare : AllBare t.gens
section
variable {X : Cx} {a : Addr} {G : Heap} {si t : Shared} {pl : List (Addr × Obj)} {τ : St} {K : Hp} {cls : Value} {d : Option Addr}
/-- .. behind a step that lands it -/
theorem Air.on (q : Air X a G si pl τ K cls d t) {h' : Heap} (g : G.StaysIn h') (w : t.heap.UpToSlots h') : Inv X pl τ K { t with heap := h' } := q.inv.landed q.gr g (q.way.trans w) q.sys q.bare
/-- it is none of the frames -/
theorem off_frames {h : Heap} {l : List Env} {Z : Obj → Prop} (q : HandSPX.FlyingZ G l a Z h) : a ∉ frs l := fun hm => by
  obtain ⟨ob, vs, e, _, dt⟩ := q.there
  obtain ⟨_, ob', e2, nf⟩ := q.2.2.1.mem hm
  rw [e] at e2
  obtain rfl := Option.some.inj e2
  exact nf _ dt
theorem off_own {l : List Env} {env : Env} (hf : env.frame = some env.locals) (q : a ∉ frs (env :: l)) : a ≠ env.locals ∧ a ∉ frs l := by
  constructor
  · intro z
    refine q (List.mem_filterMap.mpr ⟨env, by simp, ?_⟩)
    rw [hf, z]
  · intro z
    obtain ⟨e, m, y⟩ := List.mem_filterMap.mp z
    exact q (List.mem_filterMap.mpr ⟨e, by simp [m], y⟩)
/-- nor anything that stood before -/
theorem Air.new (q : Air X a G si pl τ K cls d t) (g : G.get? a = none) (nf : a ∉ frs X.stack) (hex : X.ex = []) : X.s_0.heap.get? a = none ∧ ∀ p ∈ X.pn ++ pl, p.1 ≠ a := by
  have no : si.heap.get? a = none := by
    cases e : si.heap.get? a with
    | none => rfl
    | some o =>
      have z := q.gr a o e nf
      rw [g] at z
      cases z
  constructor
  · cases e : X.s_0.heap.get? a with
    | none => rfl
    | some o =>
      obtain ⟨_, z⟩ := q.inv.base.there a o e (by simp [hex])
      rw [no] at z
      cases z
  · intro p hp z
    have y := (q.inv.pin p hp).1
    rw [z, no] at y
    cases y
end
section
variable {X : Cx} {x n : Str} {c : Value} {i : Nat} {body suite : List Stmt} {b₀ : Stmt} {np pos pos' : Pos} {tb : WX → TS} {ts : TS} {Wout : WX}
/-- not this clause's: it goes on -/
theorem goes_on {a : Addr} {G : Heap} {si t : Shared} {pl : List (Addr × Obj)} {τ : St} {K : Hp} {cls : Value} {d : Option Addr} {D : Ends} (hs : X.stack = X.env :: X.outer) (hf : X.env.frame = some X.env.locals) (tk : Takes X Wout)
    (q : Air X a G si pl τ K cls d t) (fl : HandSPX.FlyingZ G (X.env :: X.outer) a (Zc cls d) t.heap) (w : Wout cls d τ K) :
    wpAny (model X.prog X.w) X.A (handleBy (.ref a) X.env []) (SP X pl D) X.xe t := by
  have up : wpAny (model X.prog X.w) X.A (setFlight (.ref a) X.env.frame) (fun _ t2 => wpAny (model X.prog X.w) X.A (throw (.ref a) : Sem Flow) (SP X pl D) X.xe t2) X.xe t := by
    rw [hf]
    refine HandSPX.setFlight_upZ fl fun h2 held w2 => wpAny_throw (tk (.ref a) _ ⟨a, G, si, pl, τ, K, cls, d, rfl, q.inv, q.gr, q.way.trans w2, .inr (.inr ?_), q.off, q.sys, q.bare, w⟩)
    rw [hs]
    exact held
  obtain ⟨_, _, _, ob, vs, T, _, _, he, _, hd, h1, _⟩ := id fl
  refine wpAny_handleBy_nil ?_
  unfold PySem.passOn
  have ne : ¬ ((Value.ref T == Value.none) = true) := by simp
  refine wpAny_bind (wpAny_field he hd h1 ?_)
  rw [if_neg ne]
  first
    | exact wpAny_bind up
    | exact wpAny_bind (wpAny_pure (wpAny_bind up))
/-- try: body / except x as n: suite, x a class of the text; the object is tracked from the suite on -/
theorem ps_try_asT (hex : X.ex = []) (hs : X.stack = X.env :: X.outer) (hf : X.env.frame = some X.env.locals) (hN : X.N.Nodup) (hi : X.N[i]? = some n) (hln : X.env.kindOf n = some .local) (hg : Gl X x) (hdb : (x == ("__debug__" : Str)) = false) (hm : X.mg x = some c) (tk : Takes X Wout)
    (hb : ∀ (W' : WX) (pl : List (Addr × Obj)) (xe : Value → Shared → Prop), Takes (X.tr pl xe) W' → PassesOwn (model X.prog X.w) X.A X.env xe → PSs (X.tr pl xe) body (tb W'))
    (hsu : ∀ (a : Addr) (pl : List (Addr × Obj)), PSs (suiteT X a pl) (b₀ :: suite) ts) :
    PS X (.Try body [.ExceptHandler (some (.Name x np)) (some n) (b₀ :: suite) pos'] [] [] pos) (fun D σ H => tb (wAsT X.K c i ts Wout D) D σ H) := by
  refine ⟨fun pl t0 τ0 K0 D I0 w0 => ?_⟩
  have ok := I0.ok
  have frames : X.A.frames = some (X.env :: X.outer) := by
    rw [ok.frames, hs]
  have calm0 : ∀ {f : Flow} {u : Shared}, SP (X.tr (X.pn ++ pl) (fun e s₁ => wpAny (model X.prog X.w) X.A (noteFrame e X.env) (fun _ s₂ => wpAny (model X.prog X.w) X.A (setFlight e none) (fun _ s₃ =>
      wpAny (model X.prog X.w) X.A (handleBy e X.env [.ExceptHandler (some (.Name x np)) (some n) (b₀ :: suite) pos']) (SP X pl D) X.xe s₃) X.xe s₂) X.xe s₁)) [] D f u →
      (match f with
        | .next => wpAny (model X.prog X.w) X.A (execs [] X.env) (SP X pl D) X.xe u
        | f => SP X pl D f u) := fun {f u} z => by
    cases f with
    | next =>
      obtain ⟨τ, K, J, y⟩ := z
      exact wpAny_execs_nil ⟨τ, K, J.ofTry ok, y⟩
    | brk => exact z.elim fun τ z => z.elim fun K z => ⟨τ, K, z.1.ofTry ok, z.2⟩
    | cont => exact z.elim fun τ z => z.elim fun K z => ⟨τ, K, z.1.ofTry ok, z.2⟩
    | ret v => exact z.elim fun v z => z.elim fun τ z => z.elim fun K z => ⟨v, τ, K, z.1.ofTry ok, z.2⟩
  refine wpAny_Try_except (wpAny_mono ((hb (wAsT X.K c i ts Wout D) (X.pn ++ pl) _ (fun u t xx => ?_) PassesOwn.looking).run [] t0 τ0 K0 D (I0.toTry _) w0) (fun f u z => calm0 z) fun _ _ z => z)
  obtain ⟨a, G, si, pl', τ, K, cls, d, rfl, J, gr, way, sky, off, sys, bare, b, hb1, yes, no⟩ := xx
  have q : Air X a G si pl τ K cls d t := ⟨J.ofTry ok, gr, way, off, sys, bare⟩
  have sky : Sky G (X.env :: X.outer) a (Zc cls d) X.env.locals t.heap := hs ▸ sky
  refine Sky.land Zc.steady frames hf sky fun h1 fl1 w1 => ?_
  obtain ⟨o1, vs1, g1, z1, e1⟩ := fl1.there
  have nfr := off_frames fl1
  obtain ⟨nL, nF⟩ := off_own hf nfr
  have q1 : Air X a G si pl τ K cls d { t with heap := h1 } := ⟨q.inv, gr, way.trans w1, off, sys, bare⟩
  have J1 := q.on fl1.1 w1
  have lt : PySem.W.Looks (model X.prog X.w) h1 (typeOf (.ref a)) cls := fun _ _ _ _ kp z => wpAny_typeOf_ref (kp a o1 g1) (by rw [z1.1]; exact z)
  refine wpAny_handleBy_cons (codeAny_handlers_test (ld_glob (X := X.suite a ((a, o1) :: (X.pn ++ pl))) (J1.suite g1 e1 off nL nF) hg hm ((PySem.W.exm_one (M := model X.prog X.w) J1.kIn lt hb1).here ?_) hdb)) (fun z => nomatch z)
  cases b with
  | false => exact goes_on hs hf tk q1 fl1 (no rfl)
  | true =>
    obtain ⟨rfl, C, rfl, su⟩ := yes rfl
    refine codeAny_handlers_suite_as (HandSPX.lands_againZ fl1 fun h2 fl2 w2 => ?_)
    obtain ⟨o2, vs2, g2, z2, e2⟩ := fl2.there
    obtain ⟨n0, np⟩ := q.new fl2.2.1 (by rw [hs]; exact nfr) hex
    have S2 := track (q.on fl2.1 (w1.trans w2)) g2 z2 e2 off nL n0 np
    refine store_ok (X := suiteT X a (X.pn ++ pl)) (v := .ref a) S2 hN hi (.inl hln) rfl (fun t3 S3 => ?_) (.inr hln)
    have gone : ∀ {τ4 : St} {K4 : Hp} {t4 : Shared} {P : Shared → Prop}, Inv (suiteT X a (X.pn ++ pl)) [] τ4 K4 t4 → (∀ t5, Inv X pl (τ4.set i none) K4 t5 → P t5) →
        wpAny (model X.prog X.w) X.A (do bindName X.env n .none; unbindBehindTheSuite X.env n pos') (fun _ t5 => P t5) X.xe t4 := fun S4 z => gone_ok (untrack S4 ok) hN hi hln z
    refine wpAny_mono ((hsu a (X.pn ++ pl)).run [] t3 _ _ _ S3 (su a off)) (fun f t4 z => ?_) fun _ _ z => z.elim
    match f, z with
    | .next, ⟨_, _, S4, y⟩ => exact gone S4 fun _ J5 => ⟨_, _, J5, y⟩
    | .brk, ⟨_, _, S4, y⟩ => exact gone S4 fun _ J5 => ⟨_, _, J5, y⟩
    | .cont, ⟨_, _, S4, y⟩ => exact gone S4 fun _ J5 => ⟨_, _, J5, y⟩
    | .ret _, ⟨_, _, _, S4, r, y⟩ => exact gone S4 fun _ J5 => ⟨_, _, _, J5, r, y⟩
end
end VM

set_option Elab.async false
set_option linter.all false
/-! VM13: names, constants, raise, try, isinstance. -/
namespace VM
open PySem PySem.Spec L2
open PyProof.Rows hiding St

section
variable {D : DC} {Wx : WX}
/-! ### names, constants -/
def visC (D : DC) (x : Str) : Bool := match D.sc.names.lookup x with
  | some .local => true
  | some .cell => true
  | some .free => true
  | _ => false
def plainName (x : Str) : Bool := !(x == ("__debug__" : Str)) && !(x == ("__classdict__" : Str)) && !(decide (x = ("__name__" : Str)))
theorem vis_of {X : Cx} {x : Str} (c : CxOk D Wx X) (h : visC D x = true) : Vis X.env.scope x := by
  unfold visC at h
  rw [← c.sc] at h
  split at h
  · rename_i e; exact .inl e
  · rename_i e; exact .inr (.inl e)
  · rename_i e; exact .inr (.inr e)
  · cases h
theorem plain_dbg {x : Str} (h : plainName x = true) : (x == ("__debug__" : Str)) = false := by
  unfold plainName at h
  rw [Bool.and_eq_true, Bool.and_eq_true] at h
  simpa using h.1.1
theorem plain_cd {x : Str} (h : plainName x = true) : (x == ("__classdict__" : Str)) = false := by
  unfold plainName at h
  rw [Bool.and_eq_true, Bool.and_eq_true] at h
  simpa using h.1.2
theorem plain_nm {x : Str} (h : plainName x = true) : x ≠ ("__name__" : Str) := by
  unfold plainName at h
  rw [Bool.and_eq_true, Bool.and_eq_true] at h
  simpa using h.2
theorem pe_nm {X : Cx} {x : Str} {i : Nat} {p : Pos} (c : CxOk D Wx X) (hi : D.N[i]? = some x) (hv : visC D x = true) (hp : plainName x = true) : PE X (.Name x p) (tVar i) :=
  pe_var (by rw [c.N]; exact hi) (vis_of c hv) (plain_dbg hp) (plain_cd hp)
theorem ve_name {x : Str} {i : Nat} {p : Pos} (hi : D.N[i]? = some x) (hv : visC D x = true) (hp : plainName x = true) : VE D Wx (.Name x p) (dVar i) :=
  ⟨_, fun X c => pe_nm c hi hv hp, fun B E hK iw => sim_var⟩
theorem ve_peek {x : Str} {i : Nat} {p : Pos} (hi : D.N[i]? = some x) (hv : visC D x = true) (hp : plainName x = true) : VE D Wx (.Name x p) (dPeek i) :=
  ⟨_, fun X c => pe_nm c hi hv hp, fun B E hK iw => sim_peek⟩
theorem ve_glob {x : Str} {w : W} {p : Pos} (o : DOk D) (hg : D.sc.names.lookup x = some .globalImplicit) (hw : D.gls x = some w) (hp : plainName x = true) : VE D Wx (.Name x p) (dConst w) := by
  obtain ⟨v, u, h1, h2, h3⟩ := o.gls x w hw
  exact ve_c (v := v) (fun X c => pe_glob (c.gl hg) (by rw [c.mg]; exact h1) h2 (plain_dbg hp)) h3
def cW : Const → Option W
  | .none => some .non
  | .bool b => some (.bl b)
  | .int i => some (.int i)
  | .str x => if x.length ≤ strLine ∧ PyData.strOk x = true then some (.str x) else none
  | _ => none
theorem ve_const {c : Const} {k : Nat} {p : Pos} {w : W} (h : cW c = some w) : VE D Wx (.Constant c k p) (dConst w) := by
  cases c with
  | none => cases h; exact ve_c (fun X c => pe_non) fun g _ => repNon
  | bool b => cases h; exact ve_c (fun X c => pe_bl) fun g _ => repBl b
  | int b => cases h; exact ve_c (fun X c => pe_int) fun g _ => repInt b
  | str x =>
    have h : (if x.length ≤ strLine ∧ PyData.strOk x = true then some (W.str x) else none) = some w := h
    split at h
    · rename_i hz
      cases h
      exact ve_c (fun X c => pe_str) fun g _ => repStr hz.1 hz.2
    · cases h
  | _ => cases h
/-! ### raise -/
def dRaise (C : Str) : DS := fun τ S => .ex C τ S
theorem vs_raise {x m : Str} {j : Nat} {p p2 pos pos' : Pos} (o : DOk D) (hc : D.calm = true) (hx : x ∈ D.ecs) (hg : D.sc.names.lookup x = some .globalImplicit) (hp : plainName x = true) : VS D Wx (.Raise (some (.Call (.Name x p) [.Constant (.str m) j p2] [] pos')) none pos) (dRaise x) := by
  have e := o.ecs x hx
  refine ⟨fun _ σ H => Wx (.ref (He.ga D.K x)) none σ H, fun X c => ?_, fun B E hK iw F ρ τ σ S H C Dn h k => ?_⟩
  · have r : Raises X (.ref (He.ga D.K x)) := raises_own (by rw [c.K]; exact e.sub) (by rw [c.K]; exact e.ty)
    exact ps_raise (c.hot hc) c.tk (pmk_own (C := He.ga D.K x) PySem.F.excBase_ValueError (by rw [c.K]; exact e.exc) (by rw [c.mg]; exact e.mg) (by rw [c.K]; exact e.keep) r (c.gl hg) (plain_dbg hp))
  · have := iw x τ S F ρ C σ H h k
    rw [hK] at this
    exact this
/-! ### try .. except X as n -/
def DC.hot (D : DC) : DC := { D with calm := false, fns := fun _ => none, mth := fun _ _ => none, mkr := fun _ => none, top := false }
theorem DOk.hot (o : DOk D) : DOk D.hot := ⟨o.nd, fun x f n h => (by cases h), o.gls, o.free, fun C h => ⟨(o.ecs C h).mg, (o.ecs C h).exc, (o.ecs C h).keep, (o.ecs C h).sub, (o.ecs C h).ty, (o.ecs C h).is⟩, fun x t h => by have := o.cvs x t h; cases t <;> exact this, o.isT, o.exm, fun C m f n h => (by cases h), fun C f h => ⟨(o.fld C f h).cls, (o.fld C f h).no⟩, fun x f n h => (by cases h)⟩
def catches (exm : List (Str × Str × Bool)) (T C : Str) : Option Bool := (exm.find? fun q => q.1 == C && q.2.1 == T).map (·.2.2)
def dCatch (cat : Option Bool) (i : Nat) (suite : DS) (C : Str) : DS := fun τ1 S1 => match cat with
  | some true => (match suite (τ1.set i (.val (.exc C))) S1 with
    | .nx τ2 S2 => .nx (τ2.set i .no) S2
    | .bk τ2 S2 => .bk (τ2.set i .no) S2
    | .ct τ2 S2 => .ct (τ2.set i .no) S2
    | .rt r τ2 S2 => .rt r τ2 S2
    | _ => .no)
  | some false => .ex C τ1 S1
  | none => .no
def dTry (cat : Str → Option Bool) (i : Nat) (body suite : DS) : DS := fun τ S => match body τ S with
  | .ex C τ1 S1 => dCatch (cat C) i suite C τ1 S1
  | o => o
theorem CxOk.tr {X : Cx} {W' : WX} {pn : List (Addr × Obj)} {xe : Value → Shared → Prop} (c : CxOk D Wx X) (tk : Takes (X.tr pn xe) W') (pass : PassesOwn (model X.prog X.w) X.A X.env xe) : CxOk D W' (X.tr pn xe) :=
  ⟨c.K, c.prog, c.w, c.mg, c.base, c.N, c.sc, c.kind, c.un, c.room, c.hot, c.fn, tk, pass, c.stk⟩
theorem CxOk.su {X : Cx} {a : Addr} {pn : List (Addr × Obj)} (c : CxOk D Wx X) : CxOk D.hot WNo (suiteT X a pn) :=
  ⟨c.K, c.prog, c.w, c.mg, c.base, c.N, c.sc, c.kind, c.un, fun h => (by cases h), fun h => (by cases h), c.fn, takes_none5, PassesOwn.never, fun h => by cases h⟩
theorem StR.setNo {B : Base} {F ρ τ σ S H C} (h : StR B F ρ τ σ S H C) (i : Nat) : StR B F ρ (τ.set i .no) (σ.set i none) S H C := by
  refine h.patch (by rw [List.length_set, List.length_set]; exact h.len) fun j sl v e1 e2 => ?_
  by_cases q : i = j
  · subst q
    have hi : i < τ.length := by
      have := (List.getElem?_eq_some_iff.mp e1).1
      simpa using this
    rw [List.getElem?_set_self hi] at e1
    cases e1
    exact .inr (.inl rfl)
  · rw [List.getElem?_set_ne q] at e1 e2
    exact .inl ⟨e1, e2⟩
theorem find_exm {l : List (Str × Str × Bool)} {C T : Str} {b : Bool} (h : (l.find? fun q => q.1 == C && q.2.1 == T).map (·.2.2) = some b) : (C, T, b) ∈ l := by
  obtain ⟨q, h1, rfl⟩ := Option.map_eq_some_iff.mp h
  have h2 := List.find?_some h1
  have h3 := List.mem_of_find?_eq_some h1
  rw [Bool.and_eq_true, beq_iff_eq, beq_iff_eq] at h2
  obtain ⟨a, b, c⟩ := q
  obtain ⟨rfl, rfl⟩ := h2
  exact h3
theorem vs_try {x n : Str} {i : Nat} {body suite : List Stmt} {b₀ : Stmt} {np pos pos' : Pos} {db ds : DS} (o : DOk D) (ht : D.top = true) (hx : x ∈ D.ecs) (hg : D.sc.names.lookup x = some .globalImplicit) (hp : plainName x = true) (hi : D.N[i]? = some n) (hn : D.sc.names.lookup n = some .local)
    (hb : ∀ W', VSs D W' body db) (hs : VSs D.hot WNo (b₀ :: suite) ds) : VS D Wx (.Try body [.ExceptHandler (some (.Name x np)) (some n) (b₀ :: suite) pos'] [] [] pos) (dTry (catches D.exm x) i db ds) := by
  have ex := o.ecs x hx
  obtain ⟨ts, ps, ss⟩ := hs
  have key : ∃ tb : WX → TS, ∀ W', (∀ X, CxOk D W' X → PSs X body (tb W')) ∧ ∀ B E, B.K = D.K → Imp B E W' → SimS B E (tb W') db := ⟨fun W' => (hb W').choose, fun W' => (hb W').choose_spec⟩
  obtain ⟨tb, htb⟩ := key
  refine ⟨fun Dn σ H => tb (wAsT D.K (.ref (He.ga D.K x)) i ts Wx Dn) Dn σ H, fun X c => ?_, fun B E hK iw F ρ τ σ S H C Dn h k => ?_⟩
  · obtain ⟨k1, k2, k3⟩ := c.stk ht
    rw [← c.K]
    refine ps_try_asT (tb := tb) (ts := ts) (c := .ref (He.ga X.K x)) k3 k1 k2 (by rw [c.N]; exact o.nd) (by rw [c.N]; exact hi) (by unfold Env.kindOf; rw [c.sc]; exact hn) (c.gl hg) (plain_dbg hp) (by rw [c.mg, c.K]; exact ex.mg) c.tk
      (fun W' pn xe tk pass => (htb W').1 _ (c.tr tk pass)) fun a pn => ps _ c.su
  · -- the exception's road
    refine (htb (wAsT D.K (.ref (He.ga D.K x)) i ts Wx Dn)).2 B (fun Cn τ1 S1 => OP B E Dn (dCatch (catches D.exm x Cn) i ds Cn τ1 S1)) hK (fun Cn τ1 S1 F1 ρ1 C1 σ1 H1 h1 k1 => ?_) F ρ τ σ S H C Dn h ?_
    · have k1 : OP B E Dn (dCatch (catches D.exm x Cn) i ds Cn τ1 S1) := k1
      cases hcat : catches D.exm x Cn with
      | none => rw [hcat] at k1; exact k1.elim
      | some b =>
        rw [hcat] at k1
        refine ⟨b, by rw [hK]; exact o.exm _ _ _ (find_exm hcat), fun hb => ?_, fun hb => ?_⟩
        · subst hb
          refine ⟨rfl, He.ga B.K Cn, rfl, fun a na => ?_⟩
          have h2 : StR B F1 ρ1 τ1 σ1 S1 (upd H1 a (ExT a (He.ga B.K Cn))) C1 := h1.new na
          have rp : Rep (gOf B F1 ρ1 S1 (upd H1 a (ExT a (He.ga B.K Cn)))) (.exc Cn) (.ref a) := by
            unfold Rep
            exact ⟨a, rfl, upd_same⟩
          have h3 := StR.setVal (stk := []) (vstk := []) rfl h2 i rp
          refine ss B XNo hK imp_no F1 ρ1 (τ1.set i (.val (.exc Cn))) (σ1.set i (some (.ref a))) S1 _ C1 _ h3 ?_
          unfold dCatch at k1
          dsimp only at k1
          cases e : ds (τ1.set i (.val (.exc Cn))) S1 with
          | nx τ2 S2 => rw [e] at k1; exact fun σ2 H2 F2 ρ2 C2 q => k1 _ H2 F2 ρ2 C2 (q.setNo i)
          | bk τ2 S2 => rw [e] at k1; exact fun σ2 H2 F2 ρ2 C2 q => k1 _ H2 F2 ρ2 C2 (q.setNo i)
          | ct τ2 S2 => rw [e] at k1; exact fun σ2 H2 F2 ρ2 C2 q => k1 _ H2 F2 ρ2 C2 (q.setNo i)
          | rt r τ2 S2 => rw [e] at k1; exact k1
          | ex Cn2 τ2 S2 => rw [e] at k1; exact k1.elim
          | no => rw [e] at k1; exact k1.elim
        · subst hb
          exact iw Cn τ1 S1 F1 ρ1 C1 σ1 H1 h1 k1
    · unfold dTry at k
      cases e : db τ S with
      | nx τ2 S2 => rw [e] at k; exact k
      | bk τ2 S2 => rw [e] at k; exact k
      | ct τ2 S2 => rw [e] at k; exact k
      | rt r τ2 S2 => rw [e] at k; exact k
      | ex Cn2 τ2 S2 => rw [e] at k; exact k
      | no => rw [e] at k; exact k
/-! ### isinstance -/
def W.tyN : W → Option TyN
  | .non => some (.bt "NoneType")
  | .bl _ => some (.bt "bool")
  | .int _ => some (.bt "int")
  | .str _ => some (.bt "str")
  | .tup _ => some (.bt "tuple")
  | .lst _ => some (.bt "list")
  | .dic _ _ => some (.bt "dict")
  | .exc C => some (.own C)
  | _ => none
def rIsEx (K : PySem.W.Frag) : List V → Hp → VK → Prop := fun xs H Q => ∃ (a C : Addr) (c : V) (cv : Value) (b : Bool), xs = [.ref a, c] ∧ ClsV c cv ∧ H a = some (ExT a C) ∧ ExcC K C ∧ PySem.W.kitOne K (.ref C) cv = some b ∧ Q (.bl b) H
theorem call_isEx {X : Cx} : CallR X (.builtin "isinstance") (rIsEx X.K) := by
  rintro pl t τ K xs us P J rs ⟨a, C, c, cv, b, rfl, hcv, hH, ec, e, done⟩
  obtain ⟨v1, v2, rfl, y1, y2⟩ := vals2 rs
  obtain rfl : v1 = .ref a := y1
  obtain rfl := hcv.eq y2
  obtain ⟨⟨⟨oc, od, dt, sl⟩, at_, ⟨z1, z2⟩, vs, z3⟩, _⟩ := (show ObjOk X.prog X.w K t.heap a (ExT a C) from J.hok a _ hH)
  obtain rfl : oc = .ref C := z1
  obtain rfl : od = none := z2
  obtain rfl : dt = .fields vs := z3
  have inst : PySem.W.InstAt t.heap a _ C none := ⟨at_, rfl, rfl, trivial⟩
  exact PySem.W.kia_one (PySem.W.handS_kitx_exc ec.hg ec.hk ec.hs ec.hd ec.ha ec.hn ec.ht ec.hm) J.kIn inst e (fun z => nomatch z) fun tk => ⟨.bl b, K, J.kept (t' := tk) fun _ _ z => z, rfl, done⟩
theorem tyx_of {g : G} {w : W} {v : V} {n : String} (r : RdW g w v) (e : w.tyN = some (.bt n)) : TyX g.K g.H v (.type n) := by
  cases w with
  | non => cases e; rw [rdNon r]; exact .base .non
  | bl b => cases e; rw [rdBl r]; exact .base (.bl _)
  | int b => cases e; rw [rdInt r]; exact .base (.int _)
  | str b => cases e; rw [(rdStr r).1]; exact .base (.str _)
  | tup xs =>
    cases e
    obtain ⟨a, vs, rfl, q, _⟩ := rdTup r
    rcases q with (q | ⟨o, q⟩) | ⟨o, its, n, h1, h2, _⟩
    · exact .base (.tup q)
    · exact .fTuple q
    · exact .kTuple h1 h2
  | lst xs =>
    cases e
    obtain ⟨a, vs, rfl, q, _⟩ := r
    rcases q with (q | ⟨o, q⟩) | ⟨its, n, h1, _⟩
    · exact .base (.lst q)
    · exact .base (.frz q)
    · exact .kList h1 rfl
  | dic ks xs =>
    cases e
    obtain ⟨a, rfl, q⟩ := r
    rcases q with ⟨kvs, h1, _⟩ | ⟨kvs, h1, _⟩
    · exact .base (.dK h1)
    · exact .base (.dT h1)
  | exc C => cases e
  | _ => cases e
def tyKnown (ecs : List Str) : TyN → Bool
  | .bt _ => true
  | .own C => decide (C ∈ ecs)
def isLook (ecs : List Str) (isT : List (TyN × TyN × Bool)) (w : W) (c : TyN) : Option Bool := match w.tyN with
  | some t => if tyKnown ecs t = true then (isT.find? fun q => decide (q.1 = t) && decide (q.2.1 = c)).map (·.2.2) else none
  | none => none
def isAny (ecs : List Str) (isT : List (TyN × TyN × Bool)) (w : W) : List TyN → Option Bool
  | [] => some false
  | c :: r => match isLook ecs isT w c with
    | some true => some true
    | some false => isAny ecs isT w r
    | none => none
theorem find_isT {l : List (TyN × TyN × Bool)} {t c : TyN} {b : Bool} (h : (l.find? fun q => decide (q.1 = t) && decide (q.2.1 = c)).map (·.2.2) = some b) : (t, c, b) ∈ l := by
  obtain ⟨q, h1, rfl⟩ := Option.map_eq_some_iff.mp h
  have h2 := List.find?_some h1
  have h3 := List.mem_of_find?_eq_some h1
  rw [Bool.and_eq_true, decide_eq_true_eq, decide_eq_true_eq] at h2
  obtain ⟨a, b, c⟩ := q
  obtain ⟨rfl, rfl⟩ := h2
  exact h3
def dIsi (ecs : List Str) (isT : List (TyN × TyN × Bool)) (c : TyN) (d : DE) : DE := fun τ S => (d τ S).bind fun x τ S => R.of (((x.rdS S).bind fun w => isLook ecs isT w c).map fun b => .val (.bl b)) τ S
def rIsA (K : PySem.W.Frag) : List V → Hp → VK → Prop := fun xs H Q => rIsi K xs H Q ∨ rIsEx K xs H Q
theorem clsV_of (K : PySem.W.Frag) (c : TyN) : ClsV (c.c K) (c.v K) := by
  cases c with
  | bt n => exact .ty n
  | own C => exact .own _
theorem pe_cls {X : Cx} {x : Str} {t : TyN} {p : Pos} (o : DOk D) (c : CxOk D Wx X) (h : (x, t) ∈ D.cvs) (hg : D.sc.names.lookup x = some .globalImplicit) (hp : plainName x = true) : PE X (.Name x p) (tC (t.c D.K)) := by
  have q := o.cvs x t h
  cases t with
  | bt n => exact pe_bltn (c.gl hg) (by rw [c.mg]; exact q.1) q.2.1 (show RelV (.ty n) (.type n) from rfl) (plain_nm hp) (plain_dbg hp)
  | own C => exact pe_glob (c.gl hg) (by rw [c.mg]; exact q) (show RelV (.ref (He.ga D.K C)) (.ref (He.ga D.K C)) from rfl) (plain_dbg hp)
theorem ve_isi {x : Str} {t : TyN} {e : Expr} {p p1 p2 pos : Pos} {d : DE} (o : DOk D) (hg : D.sc.names.lookup ("isinstance" : Str) = some .globalImplicit) (hm : D.mg "isinstance" = none) (h : (x, t) ∈ D.cvs) (hx : D.sc.names.lookup x = some .globalImplicit) (hp : plainName x = true)
    (he : VE D Wx e d) (hs : notStar e = true) : VE D Wx (.Call (.Name "isinstance" p) [e, .Name x p2] [] pos) (dIsi D.ecs D.isT t d) := by
  obtain ⟨te, pe, se⟩ := he
  refine ⟨tCB (rIsA D.K) (tCons te (tCons (tC (t.c D.K)) tNil)), fun X c => ?_, fun B E hK iw F ρ stk vstk τ σ S H C Q hl hh k => ?_⟩
  · rw [← c.K]
    exact pe_callB (CallR.or call_isi call_isEx) (c.gl hg) (by rw [c.mg]; exact hm) boot_isinstance (pa_cons (pe X c) (pa_cons (by rw [c.K]; exact pe_cls o c h hx hp) pa_nil rfl) (starEach_cons hs)) (by decide +kernel) (by decide +kernel) (starEach_cons hs) rfl
  · refine se B E hK iw F ρ stk vstk τ σ S H C _ hl hh (k.bind.mono fun r τ1 S1 k v H1 F1 ρ1 C1 h1 => ?_)
    obtain ⟨res, e1, k⟩ := k.of
    obtain ⟨b, e2, rfl⟩ := Option.map_eq_some_iff.mp e1
    obtain ⟨w, e3, e4⟩ := Option.bind_eq_some_iff.mp e2
    obtain ⟨v', ev, rv⟩ := (StR.top h1).rdS h1.cel e3
    cases ev
    have fin := k (.bl b) H1 F1 ρ1 C1 ((StR.pop h1).push (repBl b))
    unfold isLook at e4
    cases htn : w.tyN with
    | none => rw [htn] at e4; cases e4
    | some tn =>
      rw [htn] at e4
      dsimp only at e4
      split at e4
      · rename_i hec
        have q := o.isT _ _ _ (find_isT e4)
        cases tn with
        | bt n =>
          refine .inl ⟨v, t.c D.K, .type n, t.v D.K, b, rfl, clsV_of _ _, ?_, q, fin⟩
          rw [← hK]
          exact tyx_of rv htn
        | own Cn =>
          cases w with
          | exc C' =>
            cases htn
            have rv' : Rep (gOf B F1 ρ1 S1 H1) (.exc Cn) v := rv
            unfold Rep at rv'
            obtain ⟨a, rfl, ha⟩ := rv'
            refine .inr ⟨a, He.ga D.K Cn, t.c D.K, t.v D.K, b, rfl, clsV_of _ _, by rw [← hK]; exact ha, (o.ecs Cn (of_decide_eq_true hec)).is, q, fin⟩
          | _ => cases htn
      · cases e4
end
end VM

set_option Elab.async false
set_option linter.all false
/-! VM14: slices, sorted, count. -/
namespace VM
open PySem PySem.Spec L2
open PyProof.Rows hiding St

section
variable {D : DC} {Wx : WX} {B : Base} {E : XW}
/-! ### slices -/
def dPart (d : Option DE) : Tau → Store → R (Option Int) := fun τ S => match d with
  | none => .ok none τ S
  | some d => (d τ S).bind fun x τ S => (match x with
    | .val (.int i) => .ok (some i) τ S
    | _ => .no)
def VO (D : DC) (Wx : WX) (e : Option Expr) (d : Option DE) : Prop := ∃ t0 : TO, (∀ X, CxOk D Wx X → PO X e t0) ∧ ∀ B E, B.K = D.K → Imp B E Wx → ∀ F ρ stk vstk τ σ S H C (Q : Option Int → Hp → Prop), stk.length = vstk.length → StR B F ρ (stk ++ τ) (vstk ++ σ) S H C →
  RP (dPart d τ S) (fun i τ' S' => ∀ H' F' ρ' C', StR B F' ρ' (stk ++ τ') (vstk ++ σ) S' H' C' → Q i H') E → t0 σ H Q
theorem vo_none : VO D Wx none none := ⟨_, fun X c => po_none, fun B E hK iw F ρ stk vstk τ σ S H C Q hl h k => k H F ρ C h⟩
theorem vo_some {e : Expr} {d : DE} (h : VE D Wx e d) : VO D Wx (some e) (some d) := by
  obtain ⟨t, p, s⟩ := h
  refine ⟨_, fun X c => po_some (p X c), fun B E hK iw F ρ stk vstk τ σ S H C Q hl h k => ?_⟩
  have k : RP ((d τ S).bind fun x τ S => (match x with
    | .val (.int i) => .ok (some i) τ S
    | _ => .no)) _ _ := k
  refine s B E hK iw F ρ stk vstk τ σ S H C _ hl h (k.bind.mono fun x τ1 S1 k v H1 F1 ρ1 C1 h1 => ?_)
  split at k
  · rename_i i
    obtain ⟨v', ev, r⟩ := StR.top h1
    cases ev
    unfold Rep at r
    exact ⟨i, r, k H1 F1 ρ1 C1 (StR.pop h1)⟩
  · exact k.elim
def cutW (xs : List W) (lo hi : Option Int) : List W := (xs.drop (HT.sIx xs.length 0 lo)).take (HT.sIx xs.length xs.length hi - HT.sIx xs.length 0 lo)
def fSlice (w : W) (lo hi : Option Int) : Option Sl := match w with
  | .lst xs => some (.own (.lst (cutW xs lo hi)))
  | .tup xs => some (.val (.tup (cutW xs lo hi)))
  | .str x => some (.val (.str (cutS x lo hi)))
  | _ => none
theorem cutW_reps {g : G} {ws : List W} {vs : List V} (r : Reps g ws vs) (lo hi : Option Int) : Reps g (cutW ws lo hi) (cutV vs lo hi) := by
  unfold cutW cutV
  rw [r.length]
  exact (r.drop _).take _
theorem cutS_ok {x : Str} (h : PyData.strOk x = true) (lo hi : Option Int) : PyData.strOk (cutS x lo hi) = true := by
  unfold PyData.strOk at h ⊢
  rw [Array.all_eq_true_iff_forall_mem] at h ⊢
  intro c hc
  refine h c ?_
  have hc' : c ∈ ((x.cps.toList.drop (HT.sIx x.length 0 lo)).take (HT.sIx x.length x.length hi - HT.sIx x.length 0 lo)) := by
    unfold cutS at hc
    simpa using hc
  have := List.mem_of_mem_drop (List.mem_of_mem_take hc')
  simpa using this
def rSlA3 (K : PySem.W.Frag) : V → Option Int → Option Int → Hp → VK → Prop := fun x lo hi H Q => rSlL K x lo hi H Q ∨ (rSlA K x lo hi H Q ∨ rSlS x lo hi H Q)
def dSlice (a : DE) (lo hi : Option DE) : DE := fun τ S => (a τ S).bind fun x τ S => (dPart lo τ S).bind fun l τ S => (dPart hi τ S).bind fun h τ S => R.of ((x.rdS S).bind fun w => fSlice w l h) τ S
theorem ve_slice {e : Expr} {lo hi : Option Expr} {p2 pos : Pos} {d : DE} {dl dh : Option DE} (he : VE D Wx e d) (hl : VO D Wx lo dl) (hh : VO D Wx hi dh) : VE D Wx (.Subscript e (.Slice lo hi none p2) pos) (dSlice d dl dh) := by
  obtain ⟨t, p, s⟩ := he
  obtain ⟨tl, pl, sl⟩ := hl
  obtain ⟨th, ph, sh⟩ := hh
  refine ⟨tSl (rSlA3 D.K) t tl th, fun X c => by rw [← c.K]; exact pe_slice (sl_list.or (sl_tupA.or sl_str)) (p X c) (pl X c) (ph X c), fun B E hK iw F ρ stk vstk τ σ S H C Q hl h k => ?_⟩
  refine s B E hK iw F ρ stk vstk τ σ S H C _ hl h (k.bind.mono fun x τ1 S1 k v H1 F1 ρ1 C1 h1 => ?_)
  refine sl B E hK iw F1 ρ1 (x :: stk) (some v :: vstk) τ1 σ S1 H1 C1 _ (by simp [hl]) h1 (k.bind.mono fun l τ2 S2 k H2 F2 ρ2 C2 h2 => ?_)
  refine sh B E hK iw F2 ρ2 (x :: stk) (some v :: vstk) τ2 σ S2 H2 C2 _ (by simp [hl]) h2 (k.bind.mono fun u τ3 S3 k H3 F3 ρ3 C3 h3 => ?_)
  obtain ⟨res, e, k⟩ := k.of
  obtain ⟨w, ew, e⟩ := Option.bind_eq_some_iff.mp e
  obtain ⟨v', ev, rv⟩ := (StR.top h3).rdS h3.cel ew
  cases ev
  have rok : ResOk (gOf B F3 ρ3 S3 H3) res Q := fun v H4 e4 r4 => k v H4 F3 ρ3 C3 ((StR.pop h3).result e4 r4)
  cases w with
  | lst xs =>
    cases e
    obtain ⟨a, vs, rfl, q, r⟩ := rv
    exact .inl ⟨a, vs, rfl, by rw [← hK]; exact q.sq, rok.lst (cutW_reps r l u)⟩
  | tup xs =>
    cases e
    obtain ⟨a, vs, rfl, q, r⟩ := rdTup rv
    refine .inr (.inl ⟨a, vs, rfl, by rw [← hK]; exact q, fun hw => ?_, fun _ => rok.tup (cutW_reps r l u)⟩)
    have : cutW xs l u = xs := by
      unfold cutW
      rw [r.length, hw.1, hw.2, List.drop_zero, Nat.sub_zero, ← r.length, List.take_length]
    rw [this] at rok
    exact rok.val (repTup q r)
  | str z =>
    cases e
    obtain ⟨rfl, hz, hk⟩ := rdStr rv
    exact .inr (.inr ⟨z, rfl, Nat.le_trans hz strLine_le, rok.val (repStr (Nat.le_trans (cutS_length z l u) hz) (cutS_ok hk l u))⟩)
  | _ => cases e
/-- xs[::-1] -/
def dRevL (a : DE) : DE := fun τ S => (a τ S).bind fun x τ S => R.of (match x.rdS S with
  | some (.lst xs) => some (.own (.lst xs.reverse))
  | _ => none) τ S
theorem ve_revL {e : Expr} {d : DE} {k : Nat} {p1 p2 p3 pos : Pos} (he : VE D Wx e d) : VE D Wx (.Subscript e (.Slice none none (some (.UnaryOp .USub (.Constant (.int 1) k p1) p2)) p3) pos) (dRevL d) := by
  obtain ⟨t, p, s⟩ := he
  refine ⟨tRevL D.K t, fun X c => by rw [← c.K]; exact pe_revL (p X c), fun B E hK iw F ρ stk vstk τ σ S H C Q hl h k => ?_⟩
  refine s B E hK iw F ρ stk vstk τ σ S H C _ hl h (k.bind.mono fun x τ1 S1 k v H1 F1 ρ1 C1 h1 => ?_)
  obtain ⟨res, e, k⟩ := k.of
  split at e
  · rename_i xs ex
    cases e
    obtain ⟨v', ev, rv⟩ := (StR.top h1).rdS h1.cel ex
    cases ev
    obtain ⟨a, vs, rfl, q, r⟩ := rv
    refine ⟨a, vs, rfl, by rw [← hK]; exact q.sq, fun p hp => ?_⟩
    have e2 : Ext H1 (upd H1 p (.lst vs.reverse)) := Ext.new hp
    exact k _ _ F1 ρ1 C1 ((StR.pop h1).result e2 (res := .own (.lst xs.reverse)) ⟨p, rfl, hp, _, upd_same, (Reps.le (G.le_ext (g := gOf B F1 ρ1 S1 H1) e2) _ _ r).reverse⟩)
  · cases e
end
/-! ### sorted -/
def insI (x : Int) : List Int → List Int
  | [] => [x]
  | y :: r => if x ≤ y then x :: y :: r else y :: insI x r
def srtI : List Int → List Int
  | [] => []
  | x :: r => insI x (srtI r)
theorem insI_perm (x : Int) : ∀ l : List Int, (insI x l).Perm (x :: l)
  | [] => List.Perm.refl _
  | y :: r => by
    unfold insI
    split
    · exact List.Perm.refl _
    · exact ((insI_perm x r).cons y).trans (List.Perm.swap x y r)
theorem srtI_perm : ∀ l : List Int, (srtI l).Perm l
  | [] => List.Perm.refl _
  | x :: r => (insI_perm x _).trans ((srtI_perm r).cons x)
theorem insI_sorted (x : Int) : ∀ {l : List Int}, l.Pairwise (· ≤ ·) → (insI x l).Pairwise (· ≤ ·)
  | [], _ => List.pairwise_singleton _ _
  | y :: r, h => by
    unfold insI
    have h' := List.pairwise_cons.mp h
    split
    · rename_i hx
      refine List.pairwise_cons.mpr ⟨fun z hz => ?_, h⟩
      rcases List.mem_cons.mp hz with rfl | hz
      · exact hx
      · exact Int.le_trans hx (h'.1 z hz)
    · rename_i hx
      refine List.pairwise_cons.mpr ⟨fun z hz => ?_, insI_sorted x h'.2⟩
      rcases List.mem_cons.mp ((insI_perm x r).mem_iff.mp hz) with rfl | hz
      · omega
      · exact h'.1 z hz
theorem srtI_sorted : ∀ l : List Int, (srtI l).Pairwise (· ≤ ·)
  | [] => List.Pairwise.nil
  | x :: r => insI_sorted x (srtI_sorted r)
theorem sorted_uniq : ∀ {l m : List Int}, l.Perm m → l.Pairwise (· ≤ ·) → m.Pairwise (· ≤ ·) → l = m := fun p h1 h2 =>
  p.eq_of_pairwise (fun a b _ _ x y => Int.le_antisymm x y) h1 h2
def fSorted : W → Option Sl
  | .lst xs => (W.ints xs).map fun ns => .own (.lst ((srtI ns).map .int))
  | _ => none
theorem sim_sortedI {K : PySem.W.Frag} : SimC K (f1 fSorted) (rSortedI K) := simC1 fun g w v res Q hK r e h => by
  subst hK
  cases w with
  | lst xs =>
    obtain ⟨ns, e1, rfl⟩ := Option.map_eq_some_iff.mp (show (W.ints xs).map _ = some res from e)
    have := ints_some e1
    subst this
    obtain ⟨a, vs, rfl, q, r⟩ := r
    have := reps_ints r
    subst this
    refine ⟨a, ns, rfl, q.sq, fun ns' p hp hs hn => ?_⟩
    have : ns' = srtI ns := sorted_uniq (hp.trans (srtI_perm ns).symm) hs (srtI_sorted ns)
    subst this
    exact h.lst (ints_reps _) p hn
  | _ => cases e
/-! ### count -/
def rCountD (K : PySem.W.Frag) : V → List V → Hp → VK → Prop := fun x xs H Q => ∃ (a : Addr) (y : V) (d : PyData) (ds : List PyData), x = V.ref a ∧ xs = [y] ∧ Dp K H (V.ref a) (.list ds) ∧ Dp K H y d ∧
  SeqAt.shaped (.list ds) = true ∧ SeqAt.shaped d = true ∧ Q (.int (ds.countP fun z => PyData.eqv z d : Nat)) H
theorem mt_countD {X : Cx} (hu : X.A.units + 65 < cLine) : MtR X "list.count" (rCountD X.K) := by
  rintro pl t τ K x xs v us P J rx rxs ⟨a, y, d, ds, rfl, rfl, pl1, py, sh, sd, done⟩
  obtain rfl : v = .ref a := rx
  obtain ⟨u, rfl, ru⟩ := rxs.one
  obtain ⟨_, yd⟩ := Dp.reads J d y u py ru
  have can := SeqAt.canLay_of_shaped sh
  cases pl1 with
  | lst hq ha =>
    obtain ⟨its, rv, ⟨⟨oc, od, data, sl⟩, m, ho, hc, _, hdt⟩, _⟩ := J.list hq
    obtain rfl : oc = .type "list" := hc
    obtain rfl : data = .seq its.toArray m := hdt
    obtain ⟨_, ys⟩ := Dp.readsAll J ds _ its ha rv
    have same := SeqAt.readsAll_map ds its _ can ys
    have each := SeqAt.items_eqAt (A := X.A) (vs := its.toArray) ys yd can (SeqAt.canLay_of_shaped sd) (room_in_shaped sd hu)
    refine call_meets PySem.F.slot_list_count ⟨_, ho, rfl⟩ PySem.F.entry_list_count (PySem.F.args_list_count_2 _ _) (SeqAt.list_countAt a its.toArray m od sl u _) ⟨ho, each, ?_⟩
    have many : its.toArray.toList.countP (fun z => PyData.eqv (SeqAt.readOf t.heap z) d) = ds.countP fun z => PyData.eqv z d := by
      rw [← same, List.countP_map] <;> rfl
    rw [many]
    exact ⟨.int (ds.countP (fun z => PyData.eqv z d) : Nat), K, J.tok _, ⟨_, rfl⟩, done⟩
def pCount : PF := fun w xs => match w, xs with
  | .lst ys, [x] => (match x.toD, W.toDs ys with
    | some d, some ds => if d.depth ≤ 64 ∧ (PyData.list ds).depth ≤ 64 then sI (ds.countP fun z => PyData.eqv z d : Nat) else none
    | _, _ => none)
  | _, _ => none
theorem sim_count {K : PySem.W.Frag} : SimP K pCount (rCountD K) := by
  intro g w ws v vs res Q hK rw' rs e h
  subst hK
  unfold pCount at e
  split at e
  · rename_i ys x
    split at e
    · rename_i d ds e1 e2
      split at e
      · rename_i hs
        cases e
        obtain ⟨a, us, rfl, q, r⟩ := rw'
        obtain ⟨y, rfl, ry⟩ := pd1 rs
        exact ⟨a, y, d, ds, rfl, rfl, .lst q.sq (Reps.dp _ _ _ e2 r), ry.dp e1, shape_of (show PyData.canLayAll0 ds = true from Reps.lay _ _ _ e2 r) hs.2, shape_of (ry.lay e1) hs.1, h.val (repInt _)⟩
      · cases e
    · cases e
  · cases e
/-! ### texts: split, join -/
def W.strs : List W → Option (List Str)
  | [] => some []
  | .str i :: r => (W.strs r).map (i :: ·)
  | _ :: _ => none
theorem strs_some : ∀ {ws : List W} {ns : List Str}, W.strs ws = some ns → ws = ns.map .str
  | [], ns, h => by cases h; rfl
  | .str i :: r, ns, h => by
    obtain ⟨s, h2, rfl⟩ := Option.map_eq_some_iff.mp (show (W.strs r).map (i :: ·) = some ns from h)
    rw [strs_some h2] <;> rfl
theorem W.strs_map : ∀ ns : List Str, W.strs (ns.map .str) = some ns
  | [] => rfl
  | n :: r => by
    show (W.strs (r.map .str)).map (n :: ·) = _
    rw [W.strs_map r] <;> rfl
theorem reps_strs {g : G} : ∀ {ns : List Str} {vs : List V}, Reps g (ns.map .str) vs → vs = ns.map V.str ∧ ∀ x ∈ ns, x.length ≤ strLine ∧ PyData.strOk x = true
  | [], vs, h => by unfold Reps at h; exact ⟨h, by simp⟩
  | n :: ns, vs, h => by
    rw [List.map_cons] at h
    unfold Reps at h
    obtain ⟨v, s, rfl, a, b⟩ := h
    unfold Rep at a
    obtain ⟨rfl, h1, h2⟩ := a
    obtain ⟨rfl, h3⟩ := reps_strs b
    refine ⟨rfl, fun x hx => ?_⟩
    rcases List.mem_cons.mp hx with rfl | hx
    · exact ⟨h1, h2⟩
    · exact h3 x hx
def strC (x : Str) : Bool := decide (x.length ≤ strLine) && PyData.strOk x
theorem strs_reps {g : G} : ∀ ns : List Str, (ns.all strC) = true → Reps g (ns.map .str) (ns.map V.str)
  | [], _ => Reps.nil
  | n :: ns, h => by
    rw [List.all_cons, Bool.and_eq_true] at h
    have h1 := h.1
    unfold strC at h1
    rw [Bool.and_eq_true, decide_eq_true_eq] at h1
    exact Reps.cons (repStr h1.1 h1.2) (strs_reps ns h.2)
def rSplit : V → List V → Hp → VK → Prop := fun x xs H Q => ∃ a b, x = .str a ∧ xs = [.str b] ∧ (b.length == 0) = false ∧ a.length + 2 ≤ sizeLine ∧ rNewStrs (Txt.split a b) H Q
def pSplit : PF := fun w xs => match w, xs with
  | .str a, [.str b] => if (b.length == 0) = false ∧ a.length + 2 ≤ seqLine ∧ (Txt.split a b).all strC = true then some (.own (.lst ((Txt.split a b).map .str))) else none
  | _, _ => none
theorem sim_split {K : PySem.W.Frag} : SimP K pSplit rSplit := by
  intro g w ws v vs res Q hK rw' rs e h
  unfold pSplit at e
  split at e
  · rename_i a b
    split at e
    · rename_i hc
      cases e
      obtain ⟨y, rfl, ry⟩ := pd1 rs
      rw [(rdStr rw').1, (rdStr ry).1]
      exact ⟨a, b, rfl, rfl, hc.1, Nat.le_trans hc.2.1 seqLine_le, fun p hp => h.lst (strs_reps _ hc.2.2) p hp⟩
    · cases e
  · cases e
def rJoin (K : PySem.W.Frag) : V → List V → Hp → VK → Prop := fun x xs H Q => ∃ a p, ∃ ys : List Str, x = .str a ∧ xs = [.ref p] ∧ (SqL K H p (ys.map V.str) ∨ SqT K H p (ys.map V.str)) ∧ (ys.map (·.length)).sum + ys.length * a.length ≤ 16777216 ∧ Q (.str (Txt.join a ys)) H
def joinR (a : Str) (ys : List W) : Option Sl := (W.strs ys).bind fun l => if (l.map (·.length)).sum + l.length * a.length ≤ strLine then some (.val (.str (Txt.join a l))) else none
def pJoin : PF := fun w xs => match w, xs with
  | .str a, [.lst ys] => joinR a ys
  | .str a, [.tup ys] => joinR a ys
  | _, _ => none
theorem joinR_some {a : Str} {ys : List W} {res : Sl} (h : joinR a ys = some res) : ∃ l, ys = l.map .str ∧ (l.map (·.length)).sum + l.length * a.length ≤ strLine ∧ res = .val (.str (Txt.join a l)) := by
  obtain ⟨l, h1, h2⟩ := Option.bind_eq_some_iff.mp h
  split at h2
  · rename_i hc
    cases h2
    exact ⟨l, strs_some h1, hc, rfl⟩
  · cases h2
theorem join_okS (a : Str) (ha : PyData.strOk a = true) : ∀ l : List Str, (∀ x ∈ l, PyData.strOk x = true) → PyData.strOk (Str.join a l) = true
  | [], _ => show PyData.strOk Str.empty = true by decide +kernel
  | [x], h => h x List.mem_cons_self
  | x :: y :: r, h => by
    show PyData.strOk (x ++ a ++ Str.join a (y :: r)) = true
    exact strOk_append (strOk_append (h x List.mem_cons_self) ha) (join_okS a ha (y :: r) fun z hz => h z (List.mem_cons_of_mem _ hz))
theorem join_rep {a : Str} {l : List Str} (ha : PyData.strOk a = true) (h : ∀ x ∈ l, PyData.strOk x = true) (z : (l.map (·.length)).sum + l.length * a.length ≤ strLine) : (Txt.join a l).length ≤ strLine ∧ PyData.strOk (Txt.join a l) = true := by
  rw [show Txt.join a l = Str.join a l from StrLaws.glued_eq_join a l]
  exact ⟨Nat.le_trans (StrLaws.join_length_le a l) z, join_okS a ha l h⟩
theorem sim_join {K : PySem.W.Frag} : SimP K pJoin (rJoin K) := by
  intro g w ws v vs res Q hK rw' rs e h
  subst hK
  unfold pJoin at e
  split at e
  · rename_i a ys
    obtain ⟨l, rfl, h1, rfl⟩ := joinR_some e
    obtain ⟨y, rfl, p, us, rfl, q, r⟩ := pd1 rs
    obtain ⟨rfl, hs⟩ := reps_strs r
    obtain ⟨rfl, _, ha⟩ := rdStr rw'
    obtain ⟨h2, h3⟩ := join_rep ha (fun x hx => (hs x hx).2) h1
    exact ⟨a, p, l, rfl, rfl, .inl q.sq, Nat.le_trans h1 (by decide), h.val (repStr h2 h3)⟩
  · rename_i a ys
    obtain ⟨l, rfl, h1, rfl⟩ := joinR_some e
    obtain ⟨y, rfl, ry⟩ := pd1 rs
    obtain ⟨p, us, rfl, q, r⟩ := rdTup ry
    obtain ⟨rfl, hs⟩ := reps_strs r
    obtain ⟨rfl, _, ha⟩ := rdStr rw'
    obtain ⟨h2, h3⟩ := join_rep ha (fun x hx => (hs x hx).2) h1
    exact ⟨a, p, l, rfl, rfl, .inr q, Nat.le_trans h1 (by decide), h.val (repStr h2 h3)⟩
  · cases e
end VM

set_option Elab.async false
set_option linter.all false
set_option maxRecDepth 100000
/-! VM26: sorted of alike data. -/
namespace VM
open PySem PySem.Spec L2
open PyProof.Rows hiding St
/-- things with their data, sorted by these -/
def bySort {α : Type} (l : List (α × PyData)) : List (α × PyData) := l.mergeSort (PySem.W.dataLe false Prod.snd)
def rSortD (K : PySem.W.Frag) : List V → Hp → VK → Prop := fun xs H Q => ∃ (a : Addr) (l : List (V × PyData)), xs = [.ref a] ∧ SqL K H a (l.map (·.1)) ∧ DpAll K H (l.map (·.1)) (l.map (·.2)) ∧ PySem.W.AllAlike (l.map (·.2)) ∧ PySem.W.Sortable (l.map (·.2)) ∧
  (∀ p ∈ l, p.2.depth ≤ 60) ∧ ∀ p, H p = none → Q (.ref p) (upd H p (.lst ((bySort l).map (·.1))))
theorem each_zip {h : Heap} : ∀ {l : List (V × PyData)} {us : List Value} {as : List Addr}, Vals (l.map (·.1)) us → ReadsAll h us (l.map (·.2)) as →
    PySem.W.EachIs (fun u (p : V × PyData) => RelV p.1 u) us l ∧ PySem.W.EachIs (fun u (p : V × PyData) => ∃ as, Reads h u p.2 as) us l
  | [], _, _, .nil, .nil => ⟨.nil, .nil⟩
  | p :: l, _, _, .cons r t, .cons q z => by
    obtain ⟨a, b⟩ := each_zip t z
    exact ⟨.cons r a, .cons ⟨_, q⟩ b⟩
theorem vals_each : ∀ {l : List (V × PyData)} {us : List Value}, PySem.W.EachIs (fun u (p : V × PyData) => RelV p.1 u) us l → Vals (l.map (·.1)) us
  | [], _, .nil => .nil
  | p :: l, _, .cons r t => .cons r (vals_each t)
theorem cr_sortD {X : Cx} (hu : X.A.units + 65 < cLine) : CallR X (.builtin "sorted") (rSortD X.K) := by
  intro pins s σ H xs us Q I r h
  obtain ⟨a, l, rfl, hl, hd, al, so, dp, done⟩ := h
  rw [Vals.ref1 r]
  obtain ⟨its, rv, pl, hz⟩ := I.list hl
  obtain ⟨as, ra⟩ := Dp.readsAll I _ _ its hd rv
  obtain ⟨e1, e2⟩ := each_zip rv ra
  rw [List.length_map] at hz
  refine PySem.W.sorted_data (enc := Prod.snd) pl.isList e1 e2 al so hz (fun b hb => by have := dp b hb; omega) fun out lo eo => ?_
  have hn : H (s.heap.objs.size + 1) = none := I.hok.fresh (Nat.le_succ _)
  have len : ((bySort l).map (·.1)).length ≤ sizeLine := by
    rw [List.length_map]
    unfold bySort
    rw [List.length_mergeSort]
    exact hz
  obtain ⟨n, at_⟩ := sortedAll_at s.heap its out.toArray
  exact ⟨.ref (s.heap.objs.size + 1), upd H (s.heap.objs.size + 1) (.lst ((bySort l).map (·.1))), I.laid (o := .lst ((bySort l).map (·.1))) (a := s.heap.objs.size + 1) (t' := s.toks) (fun b u e => sortedAll_old e) (Nat.le_succ _) ⟨len, out, n, vals_each eo, at_⟩, rfl, done _ hn⟩
end VM

set_option Elab.async false
set_option linter.all false
set_option maxRecDepth 100000
/-! VM48: sorted of a tuple of alike data. -/
namespace VM
open PySem PySem.Spec L2
open PyProof.Rows hiding St
open PySem.W (EachIs copyHeap_at)
section
variable {prog : Program} {w : World} {A : Around} {E : Value → Shared → Prop} {s : Shared}
theorem collect_tup {l : Addr} {vs : List Value} {Q : List Value → Shared → Prop} (hl : IsTup s.heap l vs.toArray)
    (h : Q vs { s with heap := (s.heap.push (seqObj "list" #[] 0)).update s.heap.objs.size (Obj.mapSeq (· ++ vs.toArray)) }) (hsz : vs.length ≤ sizeLine) :
    wpAny (model prog w) A (collect (.ref l)) Q E s := by
  obtain ⟨o, ho, hc, n, hd⟩ := id hl
  unfold collect
  refine wpAny_bind (wpAny_runValue (codeAny_builtin entry_proto_collect' ?_))
  show wpAny _ _ (do again (.builtin "list.__iadd__" ⟨[← newList [], .ref l], []⟩)) _ _ s
  refine wpAny_bind (wpAny_newList (wpAny_pure ⟨Code.quiet_builtin _ (by decide +kernel), codeAny_builtin entry_list_iadd' ?_⟩))
  show wpAny _ _ (Builtin.List.listExtendWith (.ref s.heap.objs.size) (.ref l) (.ref s.heap.objs.size)) _ _ { s with heap := s.heap.push (seqObj "list" #[] 0) }
  unfold Builtin.List.listExtendWith
  have ho' : (s.heap.push (seqObj "list" #[] 0)).get? l = some o := Heap.get?_push_of_some _ ho
  refine wpAny_bind (wpAny_typeOf (T := "tuple") ⟨o, ho', hc⟩ ?_)
  have ht : (Value.type "tuple" == Value.type "tuple") = true := by rfl
  rw [if_pos (by rw [ht]; simp)]
  refine wpAny_bind (listItems_at ho' hd ?_)
  refine wpAny_bind (listItems_at (xs := #[]) (n := 0) (Heap.get?_push_size _ rfl) rfl ?_)
  rw [if_neg (by simp)]
  refine wpAny_bind (listUpdate_at (xs := #[]) (n := 0) (Heap.get?_push_size _ rfl) rfl ?_ (Nat.zero_le _) (by show (#[] ++ vs.toArray).size ≤ sizeLine + 1; simp only [Array.size_append, List.size_toArray, List.length_nil]; omega))
  refine wpAny_pure ?_
  show wpAny (model prog w) A (do
      let o ← load s.heap.objs.size
      match o.data with
      | .seq xs _ => pure xs.toList
      | _ => unsupported "internal:collect") Q E { s with heap := (s.heap.push (seqObj "list" #[] 0)).update s.heap.objs.size (Obj.mapSeq (· ++ vs.toArray)) }
  refine wpAny_bind (wpAny_load (get?_update_seq (Heap.get?_push_size _ rfl) _) ?_)
  show wpAny _ _ (pure ((#[] : Array Value) ++ vs.toArray).toList) Q E _
  rw [show ((#[] : Array Value) ++ vs.toArray).toList = vs by simp]
  exact wpAny_pure h
open PySem.W in
theorem sorted_tup_data {β : Type} {vs : List Value} {bs : List β} {enc : β → PyData} {R : Value → β → Prop} {l : Addr} {Q : Value → Shared → Prop} (hl : IsTup s.heap l vs.toArray) (e : EachIs R vs bs) (er : EachIs (fun v b => ∃ as, Reads s.heap v (enc b) as) vs bs) (hal : AllAlike (bs.map enc)) (hk : Sortable (bs.map enc)) (hL : bs.length ≤ sizeLine)
    (hu : ∀ b, b ∈ bs → A.units + 2 + (enc b).depth < cLine) (h : ∀ out, out.length = bs.length → EachIs R out (bs.mergeSort (dataLe false enc)) → Q (.ref (s.heap.objs.size + 1)) { s with heap := sortedAll s.heap vs (List.toArray out) }) :
    wpAny (model prog w) A (call (.builtin "sorted") [.ref l]) Q E s := by
  have er' : EachIs (fun v b => ∃ as, Reads (sortingHeap (copyHeap s.heap vs) (s.heap.objs.size + 1) vs) v (enc b) as) vs bs := er.mono fun _ _ ⟨as, r⟩ => ⟨as, PyProof.Rows.Reads.keeps (fun _ _ => sorting_copy_old) r⟩
  have hL' : vs.length ≤ sizeLine := by rw [e.length]; exact hL
  have SA := SortsAt.data (prog := prog) (w := w) (A := A.in1.in1) (s := { s with heap := sortingHeap (copyHeap s.heap vs) (s.heap.objs.size + 1) vs }) (each_map (R := fun v d => ∃ as, Reads (sortingHeap (copyHeap s.heap vs) (s.heap.objs.size + 1) vs) v d as) enc er') hal hk (bound_map hu)
  have fin := h _ (by rw [sortVals_length false rfl]; exact e.length) (sortVals_data false e er' hal)
  refine PySem.Calls.call_function_entry kind_sorted plain_sorted entry_sorted (args_sorted1 _) ?_
  unfold Builtin.«sorted»
  refine wpAny_bind (m := checkCount "sorted" 1 1 _) (wpAny_pure ?_)
  refine wpAny_bind (collect_tup hl ?_ hL')
  refine wpAny_bind (wpAny_newList ?_ hL')
  have hsz : ((s.heap.push (seqObj "list" #[] 0)).update s.heap.objs.size (Obj.mapSeq (· ++ vs.toArray))).objs.size = s.heap.objs.size + 1 := by
    rw [Heap.size_update, size_push']
  show wpAny _ _ _ _ _ { s with heap := copyHeap s.heap vs }
  rw [hsz]
  refine wpAny_bind (wpAny_holding (wpAny_call_entry_kw slot_list_sort ⟨_, copyHeap_at s.heap vs, rfl⟩ entry_list_sort ?body (args_list_sort _)))
  case body =>
    show wpAny (model prog w) A.in1.in1 (Builtin.«list.sort» ⟨[.ref (s.heap.objs.size + 1)], []⟩) _ _ _
    exact list_sort_vals (s := { s with heap := copyHeap s.heap vs }) (copyHeap_at s.heap vs) SA hL' ⟨_, rfl, wpAny_pure ⟨_, rfl, fin⟩⟩
end
def rSortT (K : PySem.W.Frag) : List V → Hp → VK → Prop := fun xs H Q => ∃ (a : Addr) (l : List (V × PyData)), xs = [.ref a] ∧ SqT K H a (l.map (·.1)) ∧ DpAll K H (l.map (·.1)) (l.map (·.2)) ∧ PySem.W.AllAlike (l.map (·.2)) ∧ PySem.W.Sortable (l.map (·.2)) ∧
  (∀ p ∈ l, p.2.depth ≤ 60) ∧ ∀ p, H p = none → Q (.ref p) (upd H p (.lst ((bySort l).map (·.1))))
theorem cr_sortT {X : Cx} (hu : X.A.units + 65 < cLine) : CallR X (.builtin "sorted") (rSortT X.K) := by
  intro pins s σ H xs us Q I r h
  obtain ⟨a, l, rfl, hl, hd, al, so, dp, done⟩ := h
  rw [Vals.ref1 r]
  obtain ⟨its, rv, pl, hz⟩ := I.tuple hl
  obtain ⟨as, ra⟩ := Dp.readsAll I _ _ its hd rv
  obtain ⟨e1, e2⟩ := each_zip rv ra
  rw [List.length_map] at hz
  refine sorted_tup_data (enc := Prod.snd) pl e1 e2 al so hz (fun b hb => by have := dp b hb; omega) fun out lo eo => ?_
  have hn : H (s.heap.objs.size + 1) = none := I.hok.fresh (Nat.le_succ _)
  have len : ((bySort l).map (·.1)).length ≤ sizeLine := by
    rw [List.length_map]
    unfold bySort
    rw [List.length_mergeSort]
    exact hz
  obtain ⟨n, at_⟩ := sortedAll_at s.heap its out.toArray
  exact ⟨.ref (s.heap.objs.size + 1), upd H (s.heap.objs.size + 1) (.lst ((bySort l).map (·.1))), I.laid (o := .lst ((bySort l).map (·.1))) (a := s.heap.objs.size + 1) (t' := s.toks) (fun b u e => sortedAll_old e) (Nat.le_succ _) ⟨len, out, n, vals_each eo, at_⟩, rfl, done _ hn⟩
end VM

set_option Elab.async false
set_option linter.all false
set_option maxRecDepth 100000
/-! VM27: sorted of alike data, said of values. -/
namespace VM
open PySem PySem.Spec L2
open PyProof.Rows hiding St
def sortableB (ds : List PyData) : Bool := (ds.all fun d => match d with
  | .tuple (_ :: _) => true
  | _ => false) || ds.all fun d => match d with
  | .none => false
  | .tuple _ => false
  | _ => true
def sortC (ds : List PyData) : Bool := (ds.all fun d => ds.all fun e => PySem.W.alike d e) && sortableB ds && ds.all fun d => decide (d.depth ≤ 60)
theorem sortable_of {ds : List PyData} (h : sortableB ds = true) : PySem.W.Sortable ds := by
  unfold sortableB at h
  rcases (Bool.or_eq_true _ _).mp h with h | h
  · refine .inl fun d hd => ?_
    have q := List.all_eq_true.mp h d hd
    split at q
    · exact ⟨_, _, rfl⟩
    · cases q
  · refine .inr fun d hd => ?_
    have q := List.all_eq_true.mp h d hd
    split at q
    · cases q
    · cases q
    · rename_i n1 n2
      exact ⟨n1, n2⟩
def sortW (xs : List W) (ds : List PyData) : List W := (bySort (xs.zip ds)).map (·.1)
theorem bySort_map {α β : Type} (f : α → β) (l : List (α × PyData)) : (bySort l).map (fun p => (f p.1, p.2)) = bySort (l.map fun p => (f p.1, p.2)) := by
  unfold bySort
  exact List.map_mergeSort fun a _ b _ => rfl
theorem reps_pairs {g : G} : ∀ {T : List ((W × V) × PyData)}, (∀ p ∈ T, Rep g p.1.1 p.1.2) → Reps g (T.map fun p => p.1.1) (T.map fun p => p.1.2)
  | [], _ => Reps.nil
  | p :: T, h => Reps.cons (h p List.mem_cons_self) (reps_pairs fun q hq => h q (List.mem_cons_of_mem _ hq))
theorem triples {g : G} : ∀ {xs : List W} {vs : List V} {ds : List PyData}, Reps g xs vs → W.toDs xs = some ds → ∃ T : List ((W × V) × PyData), (∀ p ∈ T, Rep g p.1.1 p.1.2) ∧ xs.zip ds = T.map (fun p => (p.1.1, p.2)) ∧ vs = T.map (fun p => p.1.2) ∧ ds = T.map (·.2)
  | [], vs, ds, r, e => by
    cases e
    have : vs = [] := List.eq_nil_of_length_eq_zero r.length.symm
    subst this
    exact ⟨[], fun p hp => (by cases hp), rfl, rfl, rfl⟩
  | x :: xs, vs, ds, r, e => by
    cases vs with
    | nil => have := r.length; cases this
    | cons v vs =>
      obtain ⟨r1, r2⟩ := r.uncons
      unfold W.toDs at e
      split at e
      · rename_i d hd
        split at e
        · rename_i es he
          cases e
          obtain ⟨T, a, b, c, f⟩ := triples r2 he
          refine ⟨((x, v), d) :: T, fun p hp => ?_, ?_, ?_, ?_⟩
          · rcases List.mem_cons.mp hp with q | q
            · rw [q]; exact r1
            · exact a p q
          · rw [List.zip_cons_cons, b, List.map_cons]
          · rw [List.map_cons, ← c]
          · rw [List.map_cons, ← f]
        · cases e
      · cases e
def fSortD : W → Option Sl
  | .lst xs => (W.toDs xs).bind fun ds => if sortC ds then some (.own (.lst (sortW xs ds))) else none
  | _ => none
theorem sim_sortD {K : PySem.W.Frag} : SimC K (f1 fSortD) (rSortD K) := simC1 fun g w v res Q hK r e h => by
  subst hK
  cases w with
  | lst xs =>
    obtain ⟨ds, e1, e2⟩ := Option.bind_eq_some_iff.mp (show (W.toDs xs).bind _ = some res from e)
    split at e2
    · rename_i c
      cases e2
      unfold sortC at c
      rw [Bool.and_eq_true, Bool.and_eq_true] at c
      obtain ⟨⟨c1, c2⟩, c3⟩ := c
      obtain ⟨a, vs, rfl, q, r⟩ := r
      have dp := Reps.dp _ _ _ e1 r
      obtain ⟨T, t1, t2, t3, t4⟩ := triples r e1
      have m1 : (T.map fun p => (p.1.2, p.2)).map (·.1) = vs := by rw [List.map_map, t3]; rfl
      have m2 : (T.map fun p => (p.1.2, p.2)).map (·.2) = ds := by rw [List.map_map, t4]; rfl
      refine ⟨a, T.map fun p => (p.1.2, p.2), rfl, by rw [m1]; exact q.sq, by rw [m1, m2]; exact dp, by rw [m2]; exact fun d hd d' hd' => List.all_eq_true.mp (List.all_eq_true.mp c1 d hd) d' hd', by rw [m2]; exact sortable_of c2, fun p hp => ?_, fun p hn => ?_⟩
      · have : p.2 ∈ ds := by rw [← m2]; exact List.mem_map.mpr ⟨p, hp, rfl⟩
        exact of_decide_eq_true (List.all_eq_true.mp c3 _ this)
      · refine h.lst ?_ p hn
        have s1 : sortW xs ds = (bySort T).map fun p => p.1.1 := by
          unfold sortW
          rw [t2, ← bySort_map (fun p : W × V => p.1) T, List.map_map]
          rfl
        have s2 : (bySort (T.map fun p => (p.1.2, p.2))).map (·.1) = (bySort T).map fun p => p.1.2 := by
          rw [← bySort_map (fun p : W × V => p.2) T, List.map_map]
          rfl
        rw [s1, s2]
        exact reps_pairs fun p hp => t1 p ((List.mergeSort_perm T _).mem_iff.mp hp)
    · cases e2
  | _ => cases e
def fSortT : W → Option Sl
  | .tup xs => (W.toDs xs).bind fun ds => if sortC ds then some (.own (.lst (sortW xs ds))) else none
  | _ => none
theorem sim_sortT {K : PySem.W.Frag} : SimC K (f1 fSortT) (rSortT K) := simC1 fun g w v res Q hK r e h => by
  subst hK
  cases w with
  | tup xs =>
    obtain ⟨ds, e1, e2⟩ := Option.bind_eq_some_iff.mp (show (W.toDs xs).bind _ = some res from e)
    split at e2
    · rename_i c
      cases e2
      unfold sortC at c
      rw [Bool.and_eq_true, Bool.and_eq_true] at c
      obtain ⟨⟨c1, c2⟩, c3⟩ := c
      obtain ⟨a, vs, rfl, q, r⟩ := r
      have dp := Reps.dp _ _ _ e1 r
      obtain ⟨T, t1, t2, t3, t4⟩ := triples r e1
      have m1 : (T.map fun p => (p.1.2, p.2)).map (·.1) = vs := by rw [List.map_map, t3]; rfl
      have m2 : (T.map fun p => (p.1.2, p.2)).map (·.2) = ds := by rw [List.map_map, t4]; rfl
      refine ⟨a, T.map fun p => (p.1.2, p.2), rfl, by rw [m1]; exact q, by rw [m1, m2]; exact dp, by rw [m2]; exact fun d hd d' hd' => List.all_eq_true.mp (List.all_eq_true.mp c1 d hd) d' hd', by rw [m2]; exact sortable_of c2, fun p hp => ?_, fun p hn => ?_⟩
      · have : p.2 ∈ ds := by rw [← m2]; exact List.mem_map.mpr ⟨p, hp, rfl⟩
        exact of_decide_eq_true (List.all_eq_true.mp c3 _ this)
      · refine h.lst ?_ p hn
        have s1 : sortW xs ds = (bySort T).map fun p => p.1.1 := by
          unfold sortW
          rw [t2, ← bySort_map (fun p : W × V => p.1) T, List.map_map]
          rfl
        have s2 : (bySort (T.map fun p => (p.1.2, p.2))).map (·.1) = (bySort T).map fun p => p.1.2 := by
          rw [← bySort_map (fun p : W × V => p.2) T, List.map_map]
          rfl
        rw [s1, s2]
        exact reps_pairs fun p hp => t1 p ((List.mergeSort_perm T _).mem_iff.mp hp)
    · cases e2
  | _ => cases e
/-- ints first, other data else -/
def fSortA (w : W) : Option Sl := match fSorted w with
  | some r => some r
  | none => (match fSortT w with
    | some r => some r
    | none => fSortD w)
theorem sim_sortA {K : PySem.W.Frag} : SimC K (f1 fSortA) (fun xs H Q => rSortedI K xs H Q ∨ rSortT K xs H Q ∨ rSortD K xs H Q) := by
  intro g ws vs res Q hK r e h
  cases ws with
  | nil => cases e
  | cons w t =>
    cases t with
    | cons _ _ => cases e
    | nil =>
      have e' : fSortA w = some res := e
      unfold fSortA at e'
      split at e'
      · rename_i r0 hr
        cases e'
        exact .inl (sim_sortedI g [w] vs res Q hK r hr h)
      · split at e'
        · rename_i r0 hr
          cases e'
          exact .inr (.inl (sim_sortT g [w] vs res Q hK r hr h))
        · exact .inr (.inr (sim_sortD g [w] vs res Q hK r e' h))
end VM

set_option Elab.async false
set_option linter.all false
set_option maxRecDepth 100000
/-! VM28: alike data: equal, less or greater; what is sorted is one alone. -/
namespace VM
open PySem PySem.Spec L2
open PyProof.Rows hiding St
open PySem.W (alike alikeAll dataLt keyToks keyToksAll)
mutual
theorem eqv_one : ∀ x y : PyData, alike x y = true → PyData.eqv x y = true → x = y
  | .none, y, h, e => by cases y <;> first | rfl | (simp [alike] at h)
  | .bool a, y, h, e => by
    cases y with
    | bool b => cases a <;> cases b <;> first | rfl | (simp [PyData.eqv] at e)
    | _ => simp [alike] at h
  | .int a, y, h, e => by
    cases y with
    | int b => simp [PyData.eqv] at e; rw [e]
    | _ => simp [alike] at h
  | .str a, y, h, e => by
    cases y with
    | str b => simp [PyData.eqv] at e; rw [e]
    | _ => simp [alike] at h
  | .list xs, y, h, e => by
    cases y with
    | list ys =>
      simp only [alike] at h
      simp only [PyData.eqv] at e
      rw [eqv_all xs ys h e]
    | _ => simp [alike] at h
  | .tuple xs, y, h, e => by
    cases y with
    | tuple ys =>
      simp only [alike] at h
      simp only [PyData.eqv] at e
      rw [eqv_all xs ys h e]
    | _ => simp [alike] at h
  | .dict _, y, h, e => by cases y <;> simp [alike] at h
theorem eqv_all : ∀ xs ys : List PyData, alikeAll xs ys = true → PyData.eqvAll xs ys = true → xs = ys
  | [], [], _, _ => rfl
  | [], y :: ys, _, e => by simp [PyData.eqvAll] at e
  | x :: xs, [], _, e => by simp [PyData.eqvAll] at e
  | x :: xs, y :: ys, h, e => by
    obtain ⟨h1, h2⟩ := PySem.W.alike_all_cons h
    rw [PySem.W.eqv_all_cons, Bool.and_eq_true] at e
    rw [eqv_one x y h1 e.1, eqv_all xs ys h2 e.2]
end
/-- neither less nor greater: the same -/
theorem data_tot {x y : PyData} (h : alike x y = true) (a : dataLt x y = false) (b : dataLt y x = false) : x = y := by
  have e : keyToks x = keyToks y := lex_total _ _ a b
  cases q : PyData.eqv x y with
  | true => exact eqv_one x y h q
  | false =>
    have z := (PySem.W.toks_eqv x y h).2 q [] [.inl 0]
    rw [← e, List.append_nil] at z
    have z2 : lexLt itemOrd (keyToks x ++ []) (keyToks x ++ [Sum.inl 0]) = true := by
      rw [PySem.W.lex_pre]
      rfl
    rw [List.append_nil, z, lex_irrefl] at z2
    cases z2
/-- what is sorted is one alone -/
theorem sorted_one {α : Type} {l m : List (α × PyData)} (p : l.Perm m) (al : ∀ a ∈ l, ∀ b ∈ m, alike a.2 b.2 = true) (inj : ∀ a ∈ l, ∀ b ∈ m, a.2 = b.2 → a = b) (s1 : l.Pairwise fun a b => dataLt b.2 a.2 = false) (s2 : m.Pairwise fun a b => dataLt b.2 a.2 = false) : l = m :=
  p.eq_of_pairwise (fun a b ha hb x y => inj a ha b hb (data_tot (al a ha b hb) y x)) s1 s2
theorem bySort_srt {α : Type} (l : List (α × PyData)) : (bySort l).Pairwise fun a b => dataLt b.2 a.2 = false := by
  have q := List.pairwise_mergeSort (le := PySem.W.dataLe false (Prod.snd : α × PyData → PyData)) (fun a b c h1 h2 => ?_) (fun a b => ?_) l
  · refine q.imp fun {a b} h => ?_
    have h' : (!dataLt b.2 a.2) = true := h
    simpa using h'
  · have h1 : (!dataLt b.2 a.2) = true := h1
    have h2 : (!dataLt c.2 b.2) = true := h2
    show (!dataLt c.2 a.2) = true
    rw [Bool.not_eq_true'] at h1 h2 ⊢
    cases z : dataLt c.2 a.2 with
    | false => rfl
    | true =>
      rcases lex_negTrans (O := itemOrd) (keyToks c.2) (keyToks b.2) (keyToks a.2) z with y | y
      · exact absurd (h2.symm.trans y) (by decide)
      · exact absurd (h1.symm.trans y) (by decide)
  · show (!dataLt b.2 a.2 || !dataLt a.2 b.2) = true
    cases z : dataLt b.2 a.2 with
    | false => rfl
    | true =>
      cases y : dataLt a.2 b.2 with
      | false => rfl
      | true => exact absurd ((lex_irrefl (O := itemOrd) _).symm.trans (lex_trans _ _ _ z y)) (by decide)
theorem bySort_perm {α : Type} (l : List (α × PyData)) : (bySort l).Perm l := List.mergeSort_perm l _
end VM

set_option Elab.async false
set_option linter.all false
set_option maxRecDepth 100000
/-! VM29: a set of data, sorted and counted. -/
namespace VM
open PySem PySem.Spec L2
open PyProof.Rows hiding St
open PySem.W (EachIs)
/-! ### keys of data -/
mutual
def nkD : PyData → Option NestedKey
  | .none => some .none
  | .int i => some (.num i)
  | .str x => some (.text x)
  | .tuple ds => (match nkDs ds with
    | some ks => some (.tup ks)
    | none => none)
  | _ => none
def nkDs : List PyData → Option (List NestedKey)
  | [] => some []
  | d :: ds => (match nkD d with
    | some k => (match nkDs ds with
      | some ks => some (k :: ks)
      | none => none)
    | none => none)
end
mutual
theorem nkD_inj : ∀ {d e : PyData} {k : NestedKey}, nkD d = some k → nkD e = some k → d = e
  | .none, e, k, h1, h2 => by
    simp [nkD] at h1; subst h1
    cases e with
    | none => rfl
    | tuple _ => simp only [nkD] at h2; split at h2 <;> cases h2
    | _ => simp [nkD] at h2
  | .int i, e, k, h1, h2 => by
    simp [nkD] at h1; subst h1
    cases e with
    | int _ => simp [nkD] at h2; rw [h2]
    | tuple _ => simp only [nkD] at h2; split at h2 <;> cases h2
    | _ => simp [nkD] at h2
  | .str i, e, k, h1, h2 => by
    simp [nkD] at h1; subst h1
    cases e with
    | str _ => simp [nkD] at h2; rw [h2]
    | tuple _ => simp only [nkD] at h2; split at h2 <;> cases h2
    | _ => simp [nkD] at h2
  | .tuple ds, e, k, h1, h2 => by
    simp only [nkD] at h1
    split at h1
    · rename_i ks hk
      cases h1
      cases e with
      | tuple es =>
        simp only [nkD] at h2
        split at h2
        · rename_i ks' hk'
          cases h2
          rw [nkDs_inj hk hk']
        · cases h2
      | _ => simp [nkD] at h2
    · cases h1
  | .bool _, e, k, h1, h2 => by simp [nkD] at h1
  | .list _, e, k, h1, h2 => by simp [nkD] at h1
  | .dict _, e, k, h1, h2 => by simp [nkD] at h1
theorem nkDs_inj : ∀ {ds es : List PyData} {ks : List NestedKey}, nkDs ds = some ks → nkDs es = some ks → ds = es
  | [], es, ks, h1, h2 => by
    simp [nkDs] at h1; subst h1
    cases es with
    | nil => rfl
    | cons e es =>
      simp only [nkDs] at h2
      split at h2
      · split at h2 <;> cases h2
      · cases h2
  | d :: ds, es, ks, h1, h2 => by
    simp only [nkDs] at h1
    split at h1
    · rename_i k hk
      split at h1
      · rename_i ks' hks
        cases h1
        cases es with
        | nil => simp [nkDs] at h2
        | cons e es =>
          simp only [nkDs] at h2
          split at h2
          · rename_i k2 hk2
            split at h2
            · rename_i ks2 hks2
              cases h2
              rw [nkD_inj hk hk2, nkDs_inj hks hks2]
            · cases h2
          · cases h2
      · cases h1
    · cases h1
end
mutual
theorem nk_is {h : Heap} : ∀ {d : PyData} {k : NestedKey} {v : Value} {as : List Addr}, Reads h v d as → nkD d = some k → NestedIs h k v
  | .none, _, _, _, r, e => by cases r; cases e; exact .none
  | .int i, _, _, _, r, e => by cases r; cases e; exact .int _ _
  | .str i, _, _, _, r, e => by cases r; cases e; exact .text _ _
  | .tuple ds, k, v, as, r, e => by
    simp only [nkD] at e
    split at e
    · rename_i ks hk
      cases e
      cases r with
      | tuple h1 h2 h3 h4 => exact .tup h1 h2 h3 (nks_is h4 hk)
    · cases e
  | .bool _, _, _, _, _, e => by simp [nkD] at e
  | .list _, _, _, _, _, e => by simp [nkD] at e
  | .dict _, _, _, _, _, e => by simp [nkD] at e
theorem nks_is {h : Heap} : ∀ {ds : List PyData} {ks : List NestedKey} {vs : List Value} {as : List Addr}, ReadsAll h vs ds as → nkDs ds = some ks → NestedAll h ks vs
  | [], ks, _, _, r, e => by cases r; cases e; exact .nil
  | d :: ds, ks, _, _, r, e => by
    simp only [nkDs] at e
    split at e
    · rename_i k hk
      split at e
      · rename_i ks' hks
        cases e
        cases r with
        | cons h1 h2 => exact .cons (nk_is h1 hk) (nks_is h2 hks)
      · cases e
    · cases e
end
mutual
theorem nk_none {h : Heap} : ∀ {d : PyData} {k : NestedKey} {v : Value} {as : List Addr}, Reads h v d as → nkD d = some k → as = []
  | .none, _, _, _, r, e => by cases r; rfl
  | .int i, _, _, _, r, e => by cases r; rfl
  | .str i, _, _, _, r, e => by cases r; rfl
  | .tuple ds, k, v, as, r, e => by
    simp only [nkD] at e
    split at e
    · rename_i ks hk
      cases r with
      | tuple h1 h2 h3 h4 => exact nks_none h4 hk
    · cases e
  | .bool _, _, _, _, _, e => by simp [nkD] at e
  | .list _, _, _, _, _, e => by simp [nkD] at e
  | .dict _, _, _, _, _, e => by simp [nkD] at e
theorem nks_none {h : Heap} : ∀ {ds : List PyData} {ks : List NestedKey} {vs : List Value} {as : List Addr}, ReadsAll h vs ds as → nkDs ds = some ks → as = []
  | [], ks, _, _, r, e => by cases r; rfl
  | d :: ds, ks, _, _, r, e => by
    simp only [nkDs] at e
    split at e
    · rename_i k hk
      split at e
      · rename_i ks' hks
        cases r with
        | cons h1 h2 => rw [nk_none h1 hk, nks_none h2 hks]; rfl
      · cases e
    · cases e
end
def kyD : PyData → Option Key
  | .int i => some (.inl i)
  | .str x => some (.inr x)
  | _ => none
/-- what a set may be made of -/
def isTupK (d : PyData) : Bool := match d with
  | .tuple _ => (match nkD d with
    | some k => decide (k.depth ≤ 8)
    | none => false)
  | _ => false
def setKeyB (ds : List PyData) : Bool := (ds.all isTupK) || (ds.all fun d => (kyD d).isSome)
theorem kyD_inj {d e : PyData} {k : Key} (h1 : kyD d = some k) (h2 : kyD e = some k) : d = e := by
  cases d <;> simp [kyD] at h1 <;> subst h1 <;> cases e <;> simp [kyD] at h2 <;> rw [h2]
theorem kyD_is {h : Heap} {d : PyData} {k : Key} {v : Value} {as : List Addr} (r : Reads h v d as) (e : kyD d = some k) : keyIs k v = true := by
  cases d with
  | int i => cases r; cases e; simp [keyIs, Value.isInt]
  | str x => cases r; cases e; simp [keyIs, Value.isStrOf]
  | _ => simp [kyD] at e
theorem kyD_none {h : Heap} {d : PyData} {k : Key} {v : Value} {as : List Addr} (r : Reads h v d as) (e : kyD d = some k) : as = [] := by
  cases d with
  | int i => cases r; rfl
  | str x => cases r; rfl
  | _ => simp [kyD] at e
theorem key_dry {h : Heap} {ds : List PyData} (s : setKeyB ds = true) {d : PyData} (hd : d ∈ ds) {v : Value} {as : List Addr} (r : Reads h v d as) : as = [] := by
  unfold setKeyB at s
  rcases (Bool.or_eq_true _ _).mp s with s | s
  · have q := List.all_eq_true.mp s d hd
    unfold isTupK at q
    split at q
    · split at q
      · rename_i k hk; exact nk_none r hk
      · cases q
    · cases q
  · have q := List.all_eq_true.mp s d hd
    cases hk : kyD d with
    | none => rw [hk] at q; cases q
    | some k => exact kyD_none r hk
/-! ### the set that is made -/
def SetΦ (w : World) (a : Addr) (us : List Value) : Heap → Prop := fun h => ∃ (o : Obj) (es : Array (Int × Value)) (ep : Nat) (t : SetTable), h.get? a = some o ∧ o.ExactSet ∧ o.data = .set es ep t ∧ t.fits es.size = true ∧ Ris t.place.toList ∧
    (w.params.followText "set-order" = true ∨ t.led = true) ∧ es.size = us.length ∧ (es.toList.map (·.2)).Perm us
/-- rows picked of rows: each datum once, none left out -/
structure Once {α : Type} (l m : List (α × PyData)) : Prop where
  sub : ∀ p ∈ m, p ∈ l
  all : ∀ p ∈ l, p.2 ∈ m.map (·.2)
  nd : (m.map (·.2)).Nodup
theorem pick {α β : Type} {R : α → β → Prop} {rows : List β} : ∀ {L : List α}, (∀ p ∈ L, ∃ r ∈ rows, R p r) → ∃ m : List β, EachIs R L m ∧ ∀ r ∈ m, r ∈ rows
  | [], _ => ⟨[], .nil, fun _ h => by cases h⟩
  | p :: L, h => by
    obtain ⟨r, hr, q⟩ := h p List.mem_cons_self
    obtain ⟨m, e, s⟩ := pick fun x hx => h x (List.mem_cons_of_mem _ hx)
    exact ⟨r :: m, .cons q e, fun x hx => by
      rcases List.mem_cons.mp hx with z | z
      · rw [z]; exact hr
      · exact s x z⟩
theorem rows_zip {α K : Type} {R : Value → α → Prop} {key : α → K} : ∀ {us : List Value} {rows : List α}, EachIs R us rows → ∀ p ∈ us.zip (rows.map key), ∃ r ∈ rows, R p.1 r ∧ key r = p.2
  | _, _, .nil, p, hp => by cases hp
  | _, _, .cons (a := u) (b := r) h t, p, hp => by
    rw [List.map_cons, List.zip_cons_cons] at hp
    rcases List.mem_cons.mp hp with z | z
    · rw [z]; exact ⟨r, List.mem_cons_self, h, rfl⟩
    · obtain ⟨r', h1, h2⟩ := rows_zip t p z
      exact ⟨r', List.mem_cons_of_mem _ h1, h2⟩
theorem each_fst {α β γ : Type} {f : γ → α} {R : α → β → Prop} : ∀ {L : List γ} {m : List β}, EachIs (fun p r => R (f p) r) L m → EachIs R (L.map f) m
  | _, _, .nil => .nil
  | _, _, .cons h t => .cons h (each_fst t)
theorem each_eq {α β K : Type} {f : α → K} {g : β → K} : ∀ {L : List α} {m : List β}, EachIs (fun p r => g r = f p) L m → L.map f = m.map g
  | _, _, .nil => rfl
  | _, _, .cons h t => by rw [List.map_cons, List.map_cons, h, each_eq t]
section
variable {P : Program} {w : World} {K : Type} [DecidableEq K] {D : SI P w K} {s z : Shared}
theorem set_rows {rows : List (V × PyData)} {us : List Value} (e : EachIs (fun u (p : V × PyData) => RelV p.1 u) us rows) {key : PyData → K} (inj : ∀ p ∈ rows, ∀ q ∈ rows, key p.2 = key q.2 → p.2 = q.2)
    (M : Made D s (us.zip (rows.map fun p => key p.2)) z) : ∃ (h' : Heap) (tk : Nat) (us' : List Value) (rows' : List (V × PyData)), z = { s with heap := h', toks := tk } ∧ SetΦ w s.heap.objs.size us' h' ∧ EachIs (fun u (p : V × PyData) => RelV p.1 u) us' rows' ∧ Once rows rows' ∧
      ∀ b o, s.heap.get? b = some o → h'.get? b = some o := by
  obtain ⟨h', tk, L, ez, at_, tk1, kp⟩ := M
  obtain ⟨o, es, ep, t, ho, hex, hd, ft, ris, led, sz, pm, nd⟩ := D.ob at_
  obtain ⟨m, em, sub⟩ := pick (R := fun (p : Value × K) (r : V × PyData) => RelV r.1 p.1 ∧ key r.2 = p.2) (rows := rows) fun p hp => by
    have := tk1.sub p hp
    exact rows_zip e p (List.mem_of_mem_take this)
  have ek : L.map (·.2) = m.map fun r => key r.2 := each_eq (em.mono fun _ _ h => h.2)
  refine ⟨h', tk, L.map (·.1), m, ez, ⟨o, es, ep, t, ho, hex, hd, ft, ris, led, by rw [sz, List.length_map], pm⟩, each_fst (f := fun p : Value × K => p.1) (R := fun u (p : V × PyData) => RelV p.1 u) (em.mono fun _ _ h => h.1), ⟨sub, fun p hp => ?_, ?_⟩, kp⟩
  · have lz : (us.zip (rows.map fun p => key p.2)).length = rows.length := by rw [List.length_zip, List.length_map, e.length, Nat.min_self]
    obtain ⟨i, hi, ei⟩ := List.getElem_of_mem hp
    have hu : i < us.length := by rw [e.length]; exact hi
    have mz : (us[i], key p.2) ∈ us.zip (rows.map fun p => key p.2) := by
      refine List.mem_of_getElem? (i := i) ?_
      rw [List.getElem?_zip_eq_some]
      refine ⟨List.getElem?_eq_getElem hu, ?_⟩
      rw [List.getElem?_map, List.getElem?_eq_getElem hi, ei]
      rfl
    have := tk1.all (us[i], key p.2) (by rw [List.take_length]; exact mz)
    rw [ek] at this
    obtain ⟨r, hr, er⟩ := List.mem_map.mp this
    have := inj r (sub r hr) p hp er
    rw [← this]
    exact List.mem_map.mpr ⟨r, hr, rfl⟩
  · rw [ek] at nd
    have : (m.map fun r => key r.2) = (m.map (·.2)).map key := by rw [List.map_map]; rfl
    rw [this] at nd
    exact (List.pairwise_map.mp nd).imp fun h e => h (by rw [e])
end
def rSet (K : PySem.W.Frag) (w : World) : List V → Hp → VK → Prop := fun xs H Q => ∃ (a : Addr) (l : List (V × PyData)), xs = [.ref a] ∧ (SqL K H a (l.map (·.1)) ∨ SqT K H a (l.map (·.1))) ∧ DpAll K H (l.map (·.1)) (l.map (·.2)) ∧ setKeyB (l.map (·.2)) = true ∧ l.length < 64 ∧
  ∀ p us' l', H p = none → EachIs (fun u (p : V × PyData) => RelV p.1 u) us' l' → Once l l' → Q (.ref p) (upd H p (.ext (SetΦ w p us')))
theorem vals_of_each : ∀ {l : List (V × PyData)} {us : List Value}, Vals (l.map (·.1)) us → EachIs (fun u (p : V × PyData) => RelV p.1 u) us l
  | [], _, .nil => .nil
  | p :: l, _, .cons r t => .cons r (vals_of_each t)
theorem each_reads {h : Heap} : ∀ {l : List (V × PyData)} {us : List Value} {as : List Addr}, ReadsAll h us (l.map (·.2)) as → EachIs (fun u (p : V × PyData) => ∃ as, Reads h u p.2 as) us l
  | [], _, _, .nil => .nil
  | p :: l, _, _, .cons q z => .cons ⟨_, q⟩ (each_reads z)
theorem zip_is {α : Type} {R : Value → PyData → Prop} {K : Type} {key : PyData → K} : ∀ {us : List Value} {l : List (α × PyData)}, EachIs (fun u (p : α × PyData) => R u p.2) us l → ∀ q ∈ us.zip (l.map fun p => key p.2), ∃ p ∈ l, R q.1 p.2 ∧ q.2 = key p.2
  | _, _, .nil, q, hq => by cases hq
  | _, _, .cons (b := p) h t, q, hq => by
    rw [List.map_cons, List.zip_cons_cons] at hq
    rcases List.mem_cons.mp hq with z | z
    · rw [z]; exact ⟨p, List.mem_cons_self, h, rfl⟩
    · obtain ⟨p', a, b⟩ := zip_is t q z
      exact ⟨p', List.mem_cons_of_mem _ a, b⟩
theorem zip_fst {α β : Type} : ∀ {us : List α} {ks : List β}, us.length = ks.length → us = (us.zip ks).map (·.1)
  | [], [], _ => rfl
  | [], _ :: _, h => by cases h
  | _ :: _, [], h => by cases h
  | u :: us, k :: ks, h => by rw [List.zip_cons_cons, List.map_cons, ← zip_fst (by simpa using h)]
theorem setΦ_ext {w : World} {a : Addr} {us : List Value} {h : Heap} (q : SetΦ w a us h) : SetΦ w a us h ∧ (∃ o, h.get? a = some o) ∧ ∀ h1 h2 : Heap, SetΦ w a us h1 → (∀ o, h1.get? a = some o → h2.get? a = some o) → SetΦ w a us h2 := by
  refine ⟨q, ?_, fun h1 h2 q1 k => ?_⟩
  · obtain ⟨o, es, ep, t, ho, _⟩ := q
    exact ⟨o, ho⟩
  · obtain ⟨o, es, ep, t, ho, r⟩ := q1
    exact ⟨o, es, ep, t, k o ho, r⟩
theorem call_setD {X : Cx} (hu : X.A.units + 65 < cLine) (hc : X.calm = true) : CallR X (.type "set") (rSet X.K X.w) := by
  intro pins s σ H xs us Q I r h
  obtain ⟨a, l, rfl, hl, hd, sk, few, done⟩ := h
  rw [Vals.ref1 r]
  have row : ∃ its : List Value, Vals (l.map (·.1)) its ∧ RowAt s.heap a its.toArray := by
    rcases hl with hl | hl
    · obtain ⟨its, rv, pl, _⟩ := I.list hl
      exact ⟨its, rv, .lst pl.isList⟩
    · obtain ⟨its, rv, pl, _⟩ := I.tuple hl
      exact ⟨its, rv, .tup (by obtain ⟨o, h1, h2, n, h3⟩ := pl; exact ⟨o, h1, h2, n, h3⟩)⟩
  obtain ⟨its, rv, pl⟩ := row
  obtain ⟨as, ra⟩ := Dp.readsAll I _ _ its hd rv
  have e1 := vals_of_each rv
  have e2 := each_reads ra
  have len : its.length = l.length := e1.length
  have fin : ∀ (h' : Heap) (tk : Nat) (us' : List Value) (l' : List (V × PyData)), SetΦ X.w s.heap.objs.size us' h' → EachIs (fun u (p : V × PyData) => RelV p.1 u) us' l' → Once l l' → (∀ b o, s.heap.get? b = some o → h'.get? b = some o) →
      EP X pins σ Q (.ref s.heap.objs.size) { s with heap := h', toks := tk } := fun h' tk us' l' q1 q2 q3 q4 => by
    have hn : H s.heap.objs.size = none := I.hok.fresh (Nat.le_refl _)
    exact ⟨.ref s.heap.objs.size, _, I.laid (o := .ext (SetΦ X.w s.heap.objs.size us')) (t' := tk) q4 (Nat.le_refl _) (setΦ_ext q1), rfl, done _ us' l' hn q2 q3⟩
  have hh := I.ok.hd hc
  unfold setKeyB at sk
  rcases (Bool.or_eq_true _ _).mp sk with sk | sk
  · have kk : ∀ p ∈ l, ∃ k, nkD p.2 = some k ∧ k.depth ≤ 8 ∧ ∃ ds, p.2 = .tuple ds := fun p hp => by
      have q := List.all_eq_true.mp sk p.2 (List.mem_map.mpr ⟨p, hp, rfl⟩)
      unfold isTupK at q
      split at q
      · rename_i ds hds
        split at q
        · rename_i k hk; exact ⟨k, hk, of_decide_eq_true q, ds, hds⟩
        · cases q
      · cases q
    refine call_set_row (D := siN X.prog X.w) (ks := its.zip (l.map fun p => (nkD p.2).getD .none)) hh pl (by rw [List.toList_toArray]; exact zip_fst (by rw [List.length_map]; exact len)) (fun q hq => ?_) (by rw [List.length_zip, List.length_map, len, Nat.min_self]; exact few) (by omega) fun z M => ?_
    · obtain ⟨p, hp, ⟨as, r⟩, e⟩ := zip_is (R := fun u d => ∃ as, Reads s.heap u d as) (key := fun d => (nkD d).getD .none) e2 q hq
      obtain ⟨k, hk, dp, ds, eds⟩ := kk p hp
      rw [e, hk]
      have ni := nk_is r hk
      rw [eds] at r
      obtain ⟨q1, q2⟩ := q
      dsimp only at r ni e ⊢
      cases r with
      | tuple h1 h2 h3 h4 => exact ⟨_, rfl, ni, dp⟩
    · obtain ⟨h', tk, us', l', ez, q1, q2, q3, q4⟩ := set_rows (key := fun d => (nkD d).getD .none) e1 (fun p hp q hq e => by
        obtain ⟨k, hk, _⟩ := kk p hp
        obtain ⟨k', hk', _⟩ := kk q hq
        rw [hk, hk'] at e
        have e : k = k' := e
        subst e
        exact nkD_inj hk hk') M
      rw [ez]
      exact fin h' tk us' l' q1 q2 q3 q4
  · have kk : ∀ p ∈ l, ∃ k, kyD p.2 = some k := fun p hp => by
      have q := List.all_eq_true.mp sk p.2 (List.mem_map.mpr ⟨p, hp, rfl⟩)
      exact Option.isSome_iff_exists.mp q
    refine call_set_row (D := siK X.prog X.w) (ks := its.zip (l.map fun p => (kyD p.2).getD (.inl 0))) hh pl (by rw [List.toList_toArray]; exact zip_fst (by rw [List.length_map]; exact len)) (fun q hq => ?_) (by rw [List.length_zip, List.length_map, len, Nat.min_self]; exact few) (by omega) fun z M => ?_
    · obtain ⟨p, hp, ⟨as, r⟩, e⟩ := zip_is (R := fun u d => ∃ as, Reads s.heap u d as) (key := fun d => (kyD d).getD (.inl 0)) e2 q hq
      obtain ⟨k, hk⟩ := kk p hp
      rw [e, hk]
      exact kyD_is r hk
    · obtain ⟨h', tk, us', l', ez, q1, q2, q3, q4⟩ := set_rows (key := fun d => (kyD d).getD (.inl 0)) e1 (fun p hp q hq e => by
        obtain ⟨k, hk⟩ := kk p hp
        obtain ⟨k', hk'⟩ := kk q hq
        rw [hk, hk'] at e
        have e : k = k' := e
        subst e
        exact kyD_inj hk hk') M
      rw [ez]
      exact fin h' tk us' l' q1 q2 q3 q4
end VM

set_option Elab.async false
set_option linter.all false
set_option maxRecDepth 100000
/-! VM30: sorted of a set, its size. -/
namespace VM
open PySem PySem.Spec L2
open PyProof.Rows hiding St
open PySem.W (EachIs)
theorem each_perm {α β : Type} {R : α → β → Prop} : ∀ {us vs : List α}, us.Perm vs → ∀ {l : List β}, EachIs R us l → ∃ l' : List β, l'.Perm l ∧ EachIs R vs l' := by
  intro us vs p
  induction p with
  | nil => intro l e; cases e; exact ⟨[], List.Perm.refl _, .nil⟩
  | cons x p ih =>
    intro l e
    cases e with
    | cons h t =>
      obtain ⟨l', q, e'⟩ := ih t
      exact ⟨_ :: l', q.cons _, .cons h e'⟩
  | swap x y p =>
    intro l e
    cases e with
    | cons h t =>
      cases t with
      | cons h2 t => exact ⟨_, List.Perm.swap _ _ _, .cons h2 (.cons h t)⟩
  | trans p q ih1 ih2 =>
    intro l e
    obtain ⟨l1, q1, e1⟩ := ih1 e
    obtain ⟨l2, q2, e2⟩ := ih2 e1
    exact ⟨l2, q2.trans q1, e2⟩
theorem each_rel {l : List (V × PyData)} {us : List Value} (e : EachIs (fun u (p : V × PyData) => RelV p.1 u) us l) : Vals (l.map (·.1)) us := vals_each e
theorem each_and {α β : Type} {R S : α → β → Prop} : ∀ {us : List α} {l : List β}, EachIs R us l → EachIs S us l → EachIs (fun a b => R a b ∧ S a b) us l
  | _, _, .nil, _ => .nil
  | _, _, .cons h t, .cons h' t' => .cons ⟨h, h'⟩ (each_and t t')
def rSortSt (K : PySem.W.Frag) (w : World) : List V → Hp → VK → Prop := fun xs H Q => ∃ (a : Addr) (us : List Value) (l : List (V × PyData)), xs = [.ref a] ∧ H a = some (.ext (SetΦ w a us)) ∧ EachIs (fun u (p : V × PyData) => RelV p.1 u) us l ∧ DpAll K H (l.map (·.1)) (l.map (·.2)) ∧
  setKeyB (l.map (·.2)) = true ∧ PySem.W.AllAlike (l.map (·.2)) ∧ PySem.W.Sortable (l.map (·.2)) ∧ (∀ p ∈ l, p.2.depth ≤ 60) ∧ (l.map (·.2)).Nodup ∧ l.length < 64 ∧ ∀ p, H p = none → Q (.ref p) (upd H p (.lst ((bySort l).map (·.1))))
theorem setΦ_get {X : Cx} {pins : List (Addr × Obj)} {σ : St} {H : Hp} {s : Shared} {a : Addr} {us : List Value} (I : Inv X pins σ H s) (h : H a = some (.ext (SetΦ X.w a us))) : SetΦ X.w a us s.heap := (I.hok a _ h).1
theorem nodup_inj {α β : Type} {f : α → β} : ∀ {l : List α}, (l.map f).Nodup → ∀ a ∈ l, ∀ b ∈ l, f a = f b → a = b
  | [], _, a, ha, _, _, _ => by cases ha
  | x :: l, nd, a, ha, b, hb, e => by
    rw [List.map_cons, List.nodup_cons] at nd
    rcases List.mem_cons.mp ha with ea | ha'
    · rcases List.mem_cons.mp hb with eb | hb'
      · rw [ea, eb]
      · exact (nd.1 (List.mem_map.mpr ⟨b, hb', by rw [← e, ea]⟩)).elim
    · rcases List.mem_cons.mp hb with eb | hb'
      · exact (nd.1 (List.mem_map.mpr ⟨a, ha', by rw [e, eb]⟩)).elim
      · exact nodup_inj nd.2 a ha' b hb' e
/-- what is sorted doesn't hang on how it stood -/
theorem bySort_perm_eq {α : Type} {l m : List (α × PyData)} (p : l.Perm m) (al : ∀ a ∈ l, ∀ b ∈ l, PySem.W.alike a.2 b.2 = true) (nd : (l.map (·.2)).Nodup) : bySort l = bySort m := by
  have pm : (bySort l).Perm (bySort m) := (bySort_perm l).trans (p.trans (bySort_perm m).symm)
  have ml : ∀ {a}, a ∈ bySort l → a ∈ l := fun h => (bySort_perm l).mem_iff.mp h
  have mm : ∀ {a}, a ∈ bySort m → a ∈ l := fun h => p.mem_iff.mpr ((bySort_perm m).mem_iff.mp h)
  exact sorted_one pm (fun a ha b hb => al a (ml ha) b (mm hb)) (fun a ha b hb e => nodup_inj nd a (ml ha) b (mm hb) e) (bySort_srt l) (bySort_srt m)
theorem cr_sortSt {X : Cx} (hu : X.A.units + 65 < cLine) (hc : X.calm = true) : CallR X (.builtin "sorted") (rSortSt X.K X.w) := by
  intro pins s σ H xs vs0 Q I r h
  obtain ⟨a, us, l, rfl, ha, eu, hd, sk, al, so, dp, nd, few, done⟩ := h
  have hh := I.ok.hd hc
  obtain ⟨o, es, ep, t, ho, hex, hda, hf, hr, hl, sz, pmu⟩ := setΦ_get I ha
  rw [Vals.ref1 r]
  have rv := each_rel eu
  obtain ⟨as, ra⟩ := Dp.readsAll I _ _ us hd rv
  have er := each_reads ra
  have e0 := each_and eu er
  have few' : us.length < 64 := by rw [eu.length]; exact few
  refine Calls.call_function_entry kind_sorted plain_sorted entry_sorted (args_sorted1 _) ?_
  unfold Builtin.«sorted»
  refine wpAny_bind (m := checkCount "sorted" 1 1 _) (wpAny_pure ?_)
  refine wpAny_bind (collect_set (A := X.A.in1) hh ⟨o, ho, hex.1, hda⟩ hf (by unfold scanBound; omega) hr hl fun s1 vs k1 hz g1 o1 pm => ?_)
  obtain ⟨l', pl, e1⟩ := each_perm (pmu.symm.trans pm.symm) e0
  have hvl : vs.length < 64 := by rw [e1.length, pl.length_eq]; exact few
  have szl : vs.length ≤ sizeLine := by rw [sizeLine_eq]; omega
  refine wpAny_bind (wpAny_newList ?_ szl)
  have hoL : (s1.heap.push (seqObj "list" vs.toArray 0)).get? s1.heap.objs.size = some (seqObj "list" vs.toArray 0) := Heap.get?_push_size _ rfl
  have mem : ∀ p ∈ l', p ∈ l := fun p hp => pl.mem_iff.mp hp
  have al' : PySem.W.AllAlike (l'.map (·.2)) := fun d hd e he => al d ((pl.map _).mem_iff.mp hd) e ((pl.map _).mem_iff.mp he)
  have so' : PySem.W.Sortable (l'.map (·.2)) := so.imp (fun h d hd => h d ((pl.map _).mem_iff.mp hd)) (fun h d hd => h d ((pl.map _).mem_iff.mp hd))
  have e2 : EachIs (fun v (b : V × PyData) => ∃ as, Reads (s1.heap.push (seqObj "list" vs.toArray 0)) v b.2 as ∧ s1.heap.objs.size ∉ as) vs l' := (PySem.W.each_mem e1).mono fun v b ⟨⟨_, as, rr⟩, hb⟩ => by
    refine ⟨as, PyProof.Rows.Reads.keeps (fun b u e => Heap.get?_push_of_some _ (k1 b u e)) rr, ?_⟩
    rw [key_dry sk (List.mem_map.mpr ⟨b, mem b hb, rfl⟩) rr]
    exact List.not_mem_nil
  refine wpAny_bind (wpAny_holding (PySem.W.list_sort_data (enc := Prod.snd) (s := { s1 with heap := s1.heap.push (seqObj "list" vs.toArray 0) }) hoL (e1.mono fun _ _ h => h.1) e2 al' so' (by rw [← e1.length]; exact szl) (fun b hb => by have := dp b (mem b hb); show X.A.units + 1 + 1 + _ < cLine; omega) fun out lo eo => ?_))
  obtain ⟨c, hcc⟩ := sortedHeap_at (vs := vs) (out := out.toArray) hoL
  have hp : s.heap.objs.size ≤ s1.heap.objs.size := hz
  have hn : H s1.heap.objs.size = none := I.hok.fresh hp
  have eb : l'.mergeSort (PySem.W.dataLe false Prod.snd) = bySort l := bySort_perm_eq pl (fun a ha b hb => al _ (List.mem_map.mpr ⟨a, mem a ha, rfl⟩) _ (List.mem_map.mpr ⟨b, mem b hb, rfl⟩)) (((pl.map _).nodup_iff).mpr nd)
  rw [eb] at eo
  have kk : ∀ b u, s.heap.get? b = some u → (sortedHeap (s1.heap.push (seqObj "list" vs.toArray 0)) s1.heap.objs.size vs out.toArray).get? b = some u := fun b u e => by
    have q := k1 b u e
    have hlt := Heap.lt_size q
    rw [sortedHeap_old (Nat.ne_of_lt hlt) (by rw [size_push']; exact Nat.lt_succ_of_lt hlt)]
    exact Heap.get?_push_of_some _ q
  have len : ((bySort l).map (·.1)).length ≤ sizeLine := by
    rw [List.length_map, (bySort_perm l).length_eq, sizeLine_eq]
    omega
  have J : Inv X pins σ (upd H s1.heap.objs.size (.lst ((bySort l).map (·.1)))) { s with heap := sortedHeap (s1.heap.push (seqObj "list" vs.toArray 0)) s1.heap.objs.size vs out.toArray, gens := s1.gens, drawn := s1.drawn, toks := s1.toks } :=
    I.call (ch := []) (Un.laid kk hp hn) (I.hok.laid kk hp ⟨len, out, c, vals_each eo, hcc⟩) (by rw [g1]; exact I.bare) (fun _ z => nomatch z)
  refine wpAny_pure ?_
  have e : ({ s1 with heap := sortedHeap (s1.heap.push (seqObj "list" vs.toArray 0)) s1.heap.objs.size vs out.toArray } : Shared) = { s with heap := sortedHeap (s1.heap.push (seqObj "list" vs.toArray 0)) s1.heap.objs.size vs out.toArray, gens := s1.gens, drawn := s1.drawn, toks := s1.toks } := by
    cases s1
    cases s
    cases o1
    rfl
  refine ⟨.ref s1.heap.objs.size, rfl, ?_⟩
  rw [e]
  exact ⟨.ref s1.heap.objs.size, _, J, rfl, done _ hn⟩
def rLenSt (w : World) : List V → Hp → VK → Prop := fun xs H Q => ∃ (a : Addr) (us : List Value), xs = [.ref a] ∧ H a = some (.ext (SetΦ w a us)) ∧ us.length < 64 ∧ Q (.int us.length) H
theorem cr_lenSt {X : Cx} : CallR X (.builtin "len") (rLenSt X.w) := by
  intro pins s σ H xs vs0 Q I r h
  obtain ⟨a, us, rfl, ha, few, done⟩ := h
  obtain ⟨o, es, ep, t, ho, hex, hda, hf, hr, hl, sz, pmu⟩ := setΦ_get I ha
  rw [Vals.ref1 r]
  refine call_len_set ho hex hda hf (by omega) ?_
  rw [sz]
  exact ⟨.int us.length, H, I.tok _, ⟨_, rfl⟩, done⟩
end VM

set_option Elab.async false
set_option linter.all false
set_option maxRecDepth 100000
/-! VM31: sorted(set(x)), len(set(x)), by values. -/
namespace VM
open PySem PySem.Spec L2
open PyProof.Rows hiding St
open PySem.W (EachIs)
/-- each datum once: the last of its kind -/
def onceD {α : Type} : List (α × PyData) → List (α × PyData)
  | [] => []
  | p :: l => if nkD p.2 ∈ (onceD l).map (fun q => nkD q.2) then onceD l else p :: onceD l
theorem onceD_sub {α : Type} : ∀ {l : List (α × PyData)} {p : α × PyData}, p ∈ onceD l → p ∈ l
  | [], p, h => by cases h
  | q :: l, p, h => by
    unfold onceD at h
    split at h
    · exact List.mem_cons_of_mem _ (onceD_sub h)
    · rcases List.mem_cons.mp h with e | h
      · rw [e]; exact List.mem_cons_self
      · exact List.mem_cons_of_mem _ (onceD_sub h)
theorem onceD_all {α : Type} : ∀ {l : List (α × PyData)} {p : α × PyData}, p ∈ l → nkD p.2 ∈ (onceD l).map (fun q => nkD q.2)
  | q :: l, p, h => by
    unfold onceD
    split
    · rename_i c
      rcases List.mem_cons.mp h with e | h
      · rw [e]; exact c
      · exact onceD_all h
    · rcases List.mem_cons.mp h with e | h
      · rw [e]; exact List.mem_map.mpr ⟨q, List.mem_cons_self, rfl⟩
      · exact List.mem_cons_of_mem _ (onceD_all h)
theorem onceD_nd {α : Type} : ∀ l : List (α × PyData), ((onceD l).map fun q => nkD q.2).Nodup
  | [] => List.nodup_nil
  | q :: l => by
    unfold onceD
    split
    · exact onceD_nd l
    · rename_i c
      exact List.nodup_cons.mpr ⟨c, onceD_nd l⟩
theorem key_nk {ds : List PyData} (s : setKeyB ds = true) {d : PyData} (hd : d ∈ ds) : ∃ k, nkD d = some k := by
  unfold setKeyB at s
  rcases (Bool.or_eq_true _ _).mp s with s | s
  · have q := List.all_eq_true.mp s d hd
    unfold isTupK at q
    split at q
    · split at q
      · rename_i k hk; exact ⟨k, hk⟩
      · cases q
    · cases q
  · have q := List.all_eq_true.mp s d hd
    cases d <;> simp [kyD] at q <;> exact ⟨_, rfl⟩
theorem once_onceD {α : Type} {l : List (α × PyData)} (s : setKeyB (l.map (·.2)) = true) : Once l (onceD l) := by
  refine ⟨fun p hp => onceD_sub hp, fun p hp => ?_, ?_⟩
  · obtain ⟨q, hq, e⟩ := List.mem_map.mp (onceD_all hp)
    obtain ⟨k, hk⟩ := key_nk s (List.mem_map.mpr ⟨p, hp, rfl⟩)
    have e' : nkD q.2 = nkD p.2 := e
    rw [hk] at e'
    rw [← nkD_inj e' hk]
    exact List.mem_map.mpr ⟨q, hq, rfl⟩
  · have q := onceD_nd l
    have e : ((onceD l).map fun q => nkD q.2) = ((onceD l).map (·.2)).map nkD := by rw [List.map_map]; rfl
    rw [e] at q
    exact (List.pairwise_map.mp q).imp fun h z => h (by rw [z])
/-- two selections -/
theorem once_perm {α : Type} {l m n : List (α × PyData)} (det : ∀ p ∈ l, ∀ q ∈ l, p.2 = q.2 → p = q) (a : Once l m) (b : Once l n) : m.Perm n := by
  have nd : ∀ {m : List (α × PyData)}, Once l m → m.Nodup := fun o => (List.pairwise_map.mp o.nd).imp fun h z => h (by rw [z])
  have to : ∀ {m n : List (α × PyData)}, Once l m → Once l n → ∀ p ∈ m, p ∈ n := fun a b p hp => by
    obtain ⟨q, hq, e⟩ := List.mem_map.mp (b.all p (a.sub p hp))
    rw [← det q (b.sub q hq) p (a.sub p hp) e]
    exact hq
  exact (List.perm_ext_iff_of_nodup (nd a) (nd b)).mpr fun p => ⟨to a b p, to b a p⟩
mutual
theorem toD_inj : ∀ {w u : W} {d : PyData}, w.toD = some d → u.toD = some d → w = u
  | .non, u, d, h1, h2 => by
    simp [W.toD] at h1; subst h1
    cases u <;> simp [W.toD] at h2 <;> rfl
  | .bl b, u, d, h1, h2 => by
    simp [W.toD] at h1; subst h1
    cases u <;> simp [W.toD] at h2 <;> rw [h2]
  | .int b, u, d, h1, h2 => by
    simp [W.toD] at h1; subst h1
    cases u <;> simp [W.toD] at h2 <;> rw [h2]
  | .str b, u, d, h1, h2 => by
    simp [W.toD] at h1; subst h1
    cases u <;> simp [W.toD] at h2 <;> rw [h2]
  | .tup xs, u, d, h1, h2 => by
    simp only [W.toD, Option.map_eq_some_iff] at h1
    obtain ⟨ds, h1, rfl⟩ := h1
    cases u with
    | tup ys =>
      simp only [W.toD, Option.map_eq_some_iff] at h2
      obtain ⟨es, h2, e⟩ := h2
      cases e
      rw [toDs_inj h1 h2]
    | _ => simp [W.toD] at h2
  | .lst xs, u, d, h1, h2 => by
    simp only [W.toD, Option.map_eq_some_iff] at h1
    obtain ⟨ds, h1, rfl⟩ := h1
    cases u with
    | lst ys =>
      simp only [W.toD, Option.map_eq_some_iff] at h2
      obtain ⟨es, h2, e⟩ := h2
      cases e
      rw [toDs_inj h1 h2]
    | _ => simp [W.toD] at h2
  | .dic _ _, u, d, h1, _ => by simp [W.toD] at h1
  | .obj _ _ _, u, d, h1, _ => by simp [W.toD] at h1
  | .exc _, u, d, h1, _ => by simp [W.toD] at h1
  | .hnd _, u, d, h1, _ => by simp [W.toD] at h1
theorem toDs_inj : ∀ {ws us : List W} {ds : List PyData}, W.toDs ws = some ds → W.toDs us = some ds → ws = us
  | [], us, ds, h1, h2 => by
    simp [W.toDs] at h1; subst h1
    cases us with
    | nil => rfl
    | cons u us =>
      simp only [W.toDs] at h2
      split at h2
      · split at h2 <;> cases h2
      · cases h2
  | w :: ws, us, ds, h1, h2 => by
    simp only [W.toDs] at h1
    split at h1
    · rename_i d hd
      split at h1
      · rename_i es hes
        cases h1
        cases us with
        | nil => simp [W.toDs] at h2
        | cons u us =>
          simp only [W.toDs] at h2
          split at h2
          · rename_i d2 hd2
            split at h2
            · rename_i es2 hes2
              cases h2
              rw [toD_inj hd hd2, toDs_inj hes hes2]
            · cases h2
          · cases h2
      · cases h1
    · cases h1
end
theorem zip_toD : ∀ {xs : List W} {ds : List PyData}, W.toDs xs = some ds → ∀ p ∈ xs.zip ds, p.1.toD = some p.2
  | [], ds, e, p, hp => by cases hp
  | x :: xs, ds, e, p, hp => by
    simp only [W.toDs] at e
    split at e
    · rename_i d hd
      split at e
      · rename_i es hes
        cases e
        rw [List.zip_cons_cons] at hp
        rcases List.mem_cons.mp hp with q | q
        · rw [q]; exact hd
        · exact zip_toD hes p q
      · cases e
    · cases e
def setW (xs : List W) (ds : List PyData) : List W := (bySort (onceD (xs.zip ds))).map (·.1)
def W.row : W → Option (List W)
  | .lst xs => some xs
  | .tup xs => some xs
  | _ => none
def fSortSet (w : W) : Option Sl := w.row.bind fun xs => (W.toDs xs).bind fun ds => if (setKeyB ds && sortC ds && decide (xs.length < 64)) = true then some (.own (.lst (setW xs ds))) else none
def fLenSet (w : W) : Option Sl := w.row.bind fun xs => (W.toDs xs).bind fun ds => if (setKeyB ds && decide (xs.length < 64)) = true then sI (onceD (xs.zip ds)).length else none
theorem row_rd {g : G} {w : W} {v : V} {xs : List W} (r : RdW g w v) (e : w.row = some xs) : ∃ a vs, v = .ref a ∧ (SqL g.K g.H a vs ∨ SqT g.K g.H a vs) ∧ Reps g xs vs := by
  cases w with
  | lst ys => cases e; obtain ⟨a, vs, h1, h2, h3⟩ := r; exact ⟨a, vs, h1, .inl h2.sq, h3⟩
  | tup ys => cases e; obtain ⟨a, vs, h1, h2, h3⟩ := rdTup r; exact ⟨a, vs, h1, .inr h2, h3⟩
  | _ => cases e
theorem toDs_len : ∀ {xs : List W} {ds : List PyData}, W.toDs xs = some ds → xs.length = ds.length
  | [], ds, e => by cases e; rfl
  | x :: xs, ds, e => by
    simp only [W.toDs] at e
    split at e
    · split at e
      · rename_i es hes
        cases e
        rw [List.length_cons, List.length_cons, toDs_len hes]
      · cases e
    · cases e
/-- what a set of values holds, with what stands for it -/
theorem set_step {g : G} {w0 : World} {xs : List W} {vs : List V} {ds : List PyData} {a : Addr} (hl : SqL g.K g.H a vs ∨ SqT g.K g.H a vs) (r : Reps g xs vs) (e : W.toDs xs = some ds) (sk : setKeyB ds = true) (few : xs.length < 64) {Q : VK}
    (fin : ∀ (p : Addr) (us' : List Value) (T' : List ((W × V) × PyData)), g.H p = none → EachIs (fun u (q : V × PyData) => RelV q.1 u) us' (T'.map fun t => (t.1.2, t.2)) → (∀ t ∈ T', Rep g t.1.1 t.1.2) → Once (xs.zip ds) (T'.map fun t => (t.1.1, t.2)) →
      (∀ t ∈ T', t.1.1.toD = some t.2) → (∀ t ∈ T', t.2 ∈ ds) → Q (.ref p) (upd g.H p (.ext (SetΦ w0 p us')))) : rSet g.K w0 [.ref a] g.H Q := by
  obtain ⟨T, t1, t2, t3, t4⟩ := triples r e
  have m1 : (T.map fun p => (p.1.2, p.2)).map (·.1) = vs := by rw [List.map_map, t3]; rfl
  have m2 : (T.map fun p => (p.1.2, p.2)).map (·.2) = ds := by rw [List.map_map, t4]; rfl
  have dpa := Reps.dp _ _ _ e r
  refine ⟨a, T.map fun p => (p.1.2, p.2), rfl, by rw [m1]; exact hl, by rw [m1, m2]; exact dpa, by rw [m2]; exact sk, by rw [List.length_map]; have := r.length; rw [t3, List.length_map] at this; omega, fun p us' l' hp eu on => ?_⟩
  -- pick triples for l'
  obtain ⟨T', eT, sub⟩ := pick (R := fun (q : V × PyData) (t : (W × V) × PyData) => (t.1.2, t.2) = q) (rows := T) (L := l') fun q hq => by
    obtain ⟨t, ht, z⟩ := List.mem_map.mp (on.sub q hq)
    exact ⟨t, ht, z⟩
  have el : l' = T'.map fun t => (t.1.2, t.2) := by
    clear on eu sub
    induction eT with
    | nil => rfl
    | cons h t ih => rw [List.map_cons, h, ← ih]
  subst el
  have dmem : ∀ t ∈ T', t.2 ∈ ds := fun t ht => by rw [t4]; exact List.mem_map.mpr ⟨t, sub t ht, rfl⟩
  refine fin p us' T' hp eu (fun t ht => t1 t (sub t ht)) ⟨fun q hq => ?_, fun q hq => ?_, ?_⟩ ?_ dmem
  · obtain ⟨t, ht, rfl⟩ := List.mem_map.mp hq
    rw [t2]
    exact List.mem_map.mpr ⟨t, sub t ht, rfl⟩
  · rw [t2] at hq
    obtain ⟨t, ht, rfl⟩ := List.mem_map.mp hq
    have := on.all (t.1.2, t.2) (List.mem_map.mpr ⟨t, ht, rfl⟩)
    rw [List.map_map] at this ⊢
    exact this
  · have := on.nd
    rw [List.map_map] at this ⊢
    exact this
  · exact fun t ht => zip_toD e (t.1.1, t.2) (by rw [t2]; exact List.mem_map.mpr ⟨t, sub t ht, rfl⟩)
theorem dpAll_of {g : G} : ∀ {T : List ((W × V) × PyData)}, (∀ t ∈ T, Rep g t.1.1 t.1.2 ∧ t.1.1.toD = some t.2) → DpAll g.K g.H (T.map fun t => t.1.2) (T.map (·.2))
  | [], _ => .nil
  | t :: T, h => .cons (Rep.dp _ _ _ (h t List.mem_cons_self).2 (h t List.mem_cons_self).1) (dpAll_of fun u hu => h u (List.mem_cons_of_mem _ hu))
def dSortSet (a : DE) : DE := fun τ S => (a τ S).bind fun x τ S => R.of ((x.rdS S).bind fSortSet) τ S
def dLenSet (a : DE) : DE := fun τ S => (a τ S).bind fun x τ S => R.of ((x.rdS S).bind fLenSet) τ S
section
variable {D : DC} {Wx : WX}
theorem ve_sortSet {p p2 pos2 pos : Pos} {e : Expr} {d : DE} (hc : D.calm = true) (hg : D.sc.names.lookup ("sorted" : Str) = some .globalImplicit) (hm : D.mg "sorted" = none) (hg2 : D.sc.names.lookup ("set" : Str) = some .globalImplicit) (hm2 : D.mg "set" = none)
    (he : VE D Wx e d) (hs : notStar e = true) : VE D Wx (.Call (.Name "sorted" p) [.Call (.Name "set" p2) [e] [] pos2] [] pos) (dSortSet d) := by
  obtain ⟨te, pe, se⟩ := he
  refine ⟨tCB (rSortSt D.K D.w) (tCons (tCB (rSet D.K D.w) (tCons te tNil)) tNil), fun X c => ?_, fun B E hK iw F ρ stk vstk τ σ S H C Q hl hh k => ?_⟩
  · rw [← c.K, ← c.w]
    exact pe_callB (cr_sortSt c.un (c.hot hc)) (c.gl hg) (by rw [c.mg]; exact hm) boot_sorted (pa_cons (pe_callTy (call_setD c.un (c.hot hc)) (c.gl hg2) (by rw [c.mg]; exact hm2) (by decide +kernel) (pa_cons (pe X c) pa_nil (starEach_cons hs)) (by decide +kernel) (by decide +kernel) (starEach_cons hs) rfl) pa_nil rfl) (by decide +kernel) (by decide +kernel) rfl rfl
  · refine se B E hK iw F ρ stk vstk τ σ S H C _ hl hh (k.bind.mono fun x τ1 S1 k v H1 F1 ρ1 C1 h1 => ?_)
    obtain ⟨res, e1, k⟩ := k.of
    obtain ⟨w, e2, e3⟩ := Option.bind_eq_some_iff.mp e1
    obtain ⟨v', ev, rv⟩ := (StR.top h1).rdS h1.cel e2
    cases ev
    unfold fSortSet at e3
    obtain ⟨xs, e4, e5⟩ := Option.bind_eq_some_iff.mp e3
    obtain ⟨ds, e6, e7⟩ := Option.bind_eq_some_iff.mp e5
    split at e7
    · rename_i cc
      cases e7
      rw [Bool.and_eq_true, Bool.and_eq_true, decide_eq_true_eq] at cc
      obtain ⟨⟨sk, sc⟩, few⟩ := cc
      unfold sortC at sc
      rw [Bool.and_eq_true, Bool.and_eq_true] at sc
      obtain ⟨⟨c1, c2⟩, c3⟩ := sc
      obtain ⟨a, vs, rfl, hl2, r⟩ := row_rd rv e4
      show rSet D.K D.w [.ref a] H1 fun x H2 => rSortSt D.K D.w [x] H2 Q
      rw [← hK]
      refine set_step (g := gOf B F1 ρ1 S1 H1) hl2 r e6 sk few fun p us' T' hp eu rp on td dm => ?_
      have ex : Ext H1 (upd H1 p (.ext (SetΦ D.w p us'))) := Ext.new hp
      have m1 : (T'.map fun t => (t.1.2, t.2)).map (·.1) = T'.map fun t => t.1.2 := by rw [List.map_map]; rfl
      have m2 : (T'.map fun t => (t.1.2, t.2)).map (·.2) = T'.map (·.2) := by rw [List.map_map]; rfl
      have dmem : ∀ q ∈ T'.map (·.2), q ∈ ds := fun q hq => by
        obtain ⟨t, ht, rfl⟩ := List.mem_map.mp hq
        exact dm t ht
      have onm : Once (xs.zip ds) (onceD (xs.zip ds)) := once_onceD (by
        have : (xs.zip ds).map (·.2) = ds := by
          rw [List.map_snd_zip (by rw [toDs_len e6]; exact Nat.le_refl _)]
        rw [this]; exact sk)
      have det : ∀ q ∈ xs.zip ds, ∀ q' ∈ xs.zip ds, q.2 = q'.2 → q = q' := fun q hq q' hq' z => by
        have h1 := zip_toD e6 q hq
        have h2 := zip_toD e6 q' hq'
        rw [z] at h1
        exact Prod.ext (toD_inj h1 h2) z
      have pm : (T'.map fun t => (t.1.1, t.2)).Perm (onceD (xs.zip ds)) := once_perm det on onm
      have alW : ∀ q ∈ T'.map (fun t => (t.1.1, t.2)), ∀ q' ∈ T'.map (fun t => (t.1.1, t.2)), PySem.W.alike q.2 q'.2 = true := fun q hq q' hq' => by
        obtain ⟨t, ht, rfl⟩ := List.mem_map.mp hq
        obtain ⟨t', ht', rfl⟩ := List.mem_map.mp hq'
        exact List.all_eq_true.mp (List.all_eq_true.mp c1 _ (dm t ht)) _ (dm t' ht')
      have nd2 : (T'.map (·.2)).Nodup := by
        have := on.nd
        rw [List.map_map] at this
        exact this
      have es : setW xs ds = (bySort T').map fun t => t.1.1 := by
        unfold setW
        rw [← bySort_perm_eq pm alW on.nd, ← bySort_map (fun p : W × V => p.1) T', List.map_map]
        rfl
      have lenT : T'.length ≤ xs.length := by
        have := pm.length_eq
        rw [List.length_map] at this
        have l2 : (onceD (xs.zip ds)).length ≤ (xs.zip ds).length := by
          have : ∀ l : List (W × PyData), (onceD l).length ≤ l.length := fun l => by
            induction l with
            | nil => exact Nat.le_refl _
            | cons q l ih =>
              unfold onceD
              split
              · exact Nat.le_succ_of_le ih
              · exact Nat.succ_le_succ ih
          exact this _
        rw [List.length_zip, toDs_len e6, Nat.min_self] at l2
        rw [toDs_len e6]
        omega
      have hsk : setKeyB (T'.map (·.2)) = true := by
        unfold setKeyB at sk ⊢
        rcases (Bool.or_eq_true _ _).mp sk with sk | sk
        · exact (Bool.or_eq_true _ _).mpr (.inl (List.all_eq_true.mpr fun q hq => List.all_eq_true.mp sk q (dmem q hq)))
        · exact (Bool.or_eq_true _ _).mpr (.inr (List.all_eq_true.mpr fun q hq => List.all_eq_true.mp sk q (dmem q hq)))
      refine ⟨p, us', T'.map fun t => (t.1.2, t.2), rfl, upd_same, eu, ?_, by rw [m2]; exact hsk, by rw [m2]; exact fun q hq q' hq' => List.all_eq_true.mp (List.all_eq_true.mp c1 q (dmem q hq)) q' (dmem q' hq'), by rw [m2]; exact (sortable_of c2).imp (fun h q hq => h q (dmem q hq)) (fun h q hq => h q (dmem q hq)), fun q hq => ?_, by rw [m2]; exact nd2, by rw [List.length_map]; omega, fun p2 hp2 => ?_⟩
      · rw [m1, m2]
        have := dpAll_of (g := (gOf B F1 ρ1 S1 H1).at_ (upd H1 p (.ext (SetΦ D.w p us')))) (T := T') fun t ht => ⟨Rep.le (G.le_ext (g := gOf B F1 ρ1 S1 H1) ex) _ _ (rp t ht), td t ht⟩
        exact this
      · obtain ⟨t, ht, rfl⟩ := List.mem_map.mp hq
        exact of_decide_eq_true (List.all_eq_true.mp c3 _ (dm t ht))
      · have ex2 : Ext (upd H1 p (.ext (SetΦ D.w p us'))) (upd (upd H1 p (.ext (SetΦ D.w p us'))) p2 (.lst ((bySort (T'.map fun t => (t.1.2, t.2))).map (·.1)))) := Ext.new (o := .lst ((bySort (T'.map fun t => (t.1.2, t.2))).map (·.1))) hp2
        have ex3 := ex.trans ex2
        have hp3 : H1 p2 = none := by
          cases q : H1 p2 with
          | none => rfl
          | some o => have := ex _ _ q; rw [this] at hp2; cases hp2
        refine k _ _ F1 ρ1 C1 ((StR.pop h1).result ex3 (res := .own (.lst (setW xs ds))) ⟨p2, rfl, hp3, (bySort (T'.map fun t => (t.1.2, t.2))).map (·.1), upd_same, ?_⟩)
        have s2 : (bySort (T'.map fun t => (t.1.2, t.2))).map (·.1) = (bySort T').map fun t => t.1.2 := by
          rw [← bySort_map (fun p : W × V => p.2) T', List.map_map]
          rfl
        have fq := reps_pairs (T := bySort T') fun t ht => Rep.le (G.le_ext (g := gOf B F1 ρ1 S1 H1) ex3) _ _ (rp t ((List.mergeSort_perm T' _).mem_iff.mp ht))
        have gen : ∀ (g : G) (m : List V), m = ((bySort T').map fun t => t.1.2) → Reps g ((bySort T').map fun t => t.1.1) ((bySort T').map fun t => t.1.2) → Reps g (setW xs ds) m := fun g m em q => by
          rw [es, em]; exact q
        exact gen _ _ s2 fq
    · cases e7
theorem ve_lenSet {p p2 pos2 pos : Pos} {e : Expr} {d : DE} (hc : D.calm = true) (hg : D.sc.names.lookup ("len" : Str) = some .globalImplicit) (hm : D.mg "len" = none) (hg2 : D.sc.names.lookup ("set" : Str) = some .globalImplicit) (hm2 : D.mg "set" = none)
    (he : VE D Wx e d) (hs : notStar e = true) : VE D Wx (.Call (.Name "len" p) [.Call (.Name "set" p2) [e] [] pos2] [] pos) (dLenSet d) := by
  obtain ⟨te, pe, se⟩ := he
  refine ⟨tCB (rLenSt D.w) (tCons (tCB (rSet D.K D.w) (tCons te tNil)) tNil), fun X c => ?_, fun B E hK iw F ρ stk vstk τ σ S H C Q hl hh k => ?_⟩
  · rw [← c.K, ← c.w]
    exact pe_callB cr_lenSt (c.gl hg) (by rw [c.mg]; exact hm) boot_len (pa_cons (pe_callTy (call_setD c.un (c.hot hc)) (c.gl hg2) (by rw [c.mg]; exact hm2) (by decide +kernel) (pa_cons (pe X c) pa_nil (starEach_cons hs)) (by decide +kernel) (by decide +kernel) (starEach_cons hs) rfl) pa_nil rfl) (by decide +kernel) (by decide +kernel) rfl rfl
  · refine se B E hK iw F ρ stk vstk τ σ S H C _ hl hh (k.bind.mono fun x τ1 S1 k v H1 F1 ρ1 C1 h1 => ?_)
    obtain ⟨res, e1, k⟩ := k.of
    obtain ⟨w, e2, e3⟩ := Option.bind_eq_some_iff.mp e1
    obtain ⟨v', ev, rv⟩ := (StR.top h1).rdS h1.cel e2
    cases ev
    unfold fLenSet at e3
    obtain ⟨xs, e4, e5⟩ := Option.bind_eq_some_iff.mp e3
    obtain ⟨ds, e6, e7⟩ := Option.bind_eq_some_iff.mp e5
    split at e7
    · rename_i cc
      cases e7
      rw [Bool.and_eq_true, decide_eq_true_eq] at cc
      obtain ⟨sk, few⟩ := cc
      obtain ⟨a, vs, rfl, hl2, r⟩ := row_rd rv e4
      show rSet D.K D.w [.ref a] H1 fun x H2 => rLenSt D.w [x] H2 Q
      rw [← hK]
      refine set_step (g := gOf B F1 ρ1 S1 H1) hl2 r e6 sk few fun p us' T' hp eu rp on td dm => ?_
      have ex : Ext H1 (upd H1 p (.ext (SetΦ D.w p us'))) := Ext.new hp
      have onm : Once (xs.zip ds) (onceD (xs.zip ds)) := once_onceD (by
        have : (xs.zip ds).map (·.2) = ds := by
          rw [List.map_snd_zip (by rw [toDs_len e6]; exact Nat.le_refl _)]
        rw [this]; exact sk)
      have det : ∀ q ∈ xs.zip ds, ∀ q' ∈ xs.zip ds, q.2 = q'.2 → q = q' := fun q hq q' hq' z => by
        have h1 := zip_toD e6 q hq
        have h2 := zip_toD e6 q' hq'
        rw [z] at h1
        exact Prod.ext (toD_inj h1 h2) z
      have pm : (T'.map fun t => (t.1.1, t.2)).Perm (onceD (xs.zip ds)) := once_perm det on onm
      have el : us'.length = (onceD (xs.zip ds)).length := by
        rw [← pm.length_eq, eu.length, List.length_map, List.length_map]
      have l2 : (onceD (xs.zip ds)).length ≤ (xs.zip ds).length := by
        have : ∀ l : List (W × PyData), (onceD l).length ≤ l.length := fun l => by
          induction l with
          | nil => exact Nat.le_refl _
          | cons q l ih =>
            unfold onceD
            split
            · exact Nat.le_succ_of_le ih
            · exact Nat.succ_le_succ ih
        exact this _
      rw [List.length_zip, toDs_len e6, Nat.min_self] at l2
      rw [toDs_len e6] at few
      refine ⟨p, us', rfl, upd_same, by omega, ?_⟩
      rw [el]
      exact k _ _ F1 ρ1 C1 ((StR.pop h1).result ex (res := .val (.int (onceD (xs.zip ds)).length)) (repInt (g := (gOf B F1 ρ1 S1 H1).at_ (upd H1 p (.ext (SetΦ D.w p us')))) _))
    · cases e7
end
end VM

set_option Elab.async false
set_option linter.all false
set_option maxRecDepth 100000
/-! VM32: a list told k times; isinstance with several classes; new dicts. -/
namespace VM
open PySem PySem.Spec L2
open PyProof.Rows hiding St
open PySem.W (EachIs)
/-! ### isinstance(x, (c, d)) -/
def isAnyB (ecs : List Str) (isT : List (TyN × TyN × Bool)) (w : W) (cs : List TyN) : Option Bool := match w.tyN with
  | some (.bt _) => isAny ecs isT w cs
  | _ => none
def dIsiT (ecs : List Str) (isT : List (TyN × TyN × Bool)) (cs : List TyN) (d : DE) : DE := fun τ S => (d τ S).bind fun x τ S => R.of (((x.rdS S).bind fun w => isAnyB ecs isT w cs).map fun b => .val (.bl b)) τ S
section
variable {D : DC} {Wx : WX}
def VN (D : DC) (c : Expr) (t : TyN) : Prop := ∃ x p, c = .Name x p ∧ (x, t) ∈ D.cvs ∧ D.sc.names.lookup x = some .globalImplicit ∧ plainName x = true
theorem pa_cls {X : Cx} (o : DOk D) (c : CxOk D Wx X) : ∀ {es : List Expr} {ts : List TyN}, EachIs (VN D) es ts → PA X es (fun _ H Q => Q (ts.map fun t => t.c D.K) H)
  | _, _, .nil => pa_nil
  | _, _, .cons (as := es) (bs := ts) (b := t) ⟨x, p, e, h1, h2, h3⟩ r => by
    subst e
    exact pa_cons (pe_cls o c h1 h2 h3) (pa_cls o c r) (starEach_cons rfl)
theorem isAny_kit (o : DOk D) {w : W} {t : TyN} {b : Bool} (hw : w.tyN = some t) (kn : tyKnown D.ecs t = true) : ∀ {cs : List TyN}, isAny D.ecs D.isT w cs = some b → PySem.W.kitAny D.K (t.v D.K) (cs.map fun c => c.v D.K) = some b
  | [], h => h
  | c :: r, h => by
    unfold isAny at h
    unfold PySem.W.kitAny
    cases e : isLook D.ecs D.isT w c with
    | none => rw [e] at h; cases h
    | some x =>
      rw [e] at h
      have e2 := e
      unfold isLook at e2
      rw [hw] at e2
      dsimp only at e2
      rw [if_pos kn] at e2
      rw [List.map_cons]
      dsimp only
      rw [o.isT _ _ _ (find_isT e2)]
      cases x with
      | true => exact h
      | false => exact isAny_kit o hw kn h
theorem clsVs (K : PySem.W.Frag) : ∀ cs : List TyN, Paired ClsV (cs.map fun c => c.c K) (cs.map fun c => c.v K)
  | [] => .nil
  | c :: r => .cons (clsV_of K c) (clsVs K r)
theorem ve_isiT {es : List Expr} {ts : List TyN} {e : Expr} {p p2 pos : Pos} {kk : Nat} {d : DE} (o : DOk D) (hg : D.sc.names.lookup ("isinstance" : Str) = some .globalImplicit) (hm : D.mg "isinstance" = none) (hes : EachIs (VN D) es ts) (few : ts.length ≤ 100)
    (he : VE D Wx e d) (hs : notStar e = true) : VE D Wx (.Call (.Name "isinstance" p) [e, .Tuple es kk p2] [] pos) (dIsiT D.ecs D.isT ts d) := by
  obtain ⟨te, pe, se⟩ := he
  refine ⟨tCB (rIsiT D.K) (tCons te (tCons (tTup (fun _ H Q => Q (ts.map fun t => t.c D.K) H)) tNil)), fun X c => ?_, fun B E hK iw F ρ stk vstk τ σ S H C Q hl hh k => ?_⟩
  · rw [← c.K]
    exact pe_callB call_isiT (c.gl hg) (by rw [c.mg]; exact hm) boot_isinstance (pa_cons (pe X c) (pa_cons (pe_tup (by rw [c.K]; exact pa_cls o c hes)) pa_nil rfl) (starEach_cons hs)) (by decide +kernel) (by decide +kernel) (starEach_cons hs) rfl
  · refine se B E hK iw F ρ stk vstk τ σ S H C _ hl hh (k.bind.mono fun r τ1 S1 k v H1 F1 ρ1 C1 h1 => ?_)
    obtain ⟨res, e1, k⟩ := k.of
    obtain ⟨b, e2, rfl⟩ := Option.map_eq_some_iff.mp e1
    obtain ⟨w, e3, e4⟩ := Option.bind_eq_some_iff.mp e2
    obtain ⟨v', ev, rv⟩ := (StR.top h1).rdS h1.cel e3
    cases ev
    refine ⟨by rw [List.length_map]; exact Nat.le_trans few (by rw [sizeLine_eq]; decide), fun q hq => ?_⟩
    have ex : Ext H1 (upd H1 q (.tup (ts.map fun t => t.c D.K))) := Ext.new hq
    have fin := k (.bl b) _ F1 ρ1 C1 (((StR.pop h1).heap ex).push (repBl b))
    unfold isAnyB at e4
    split at e4
    · rename_i n htn
      have rv2 : RdW ((gOf B F1 ρ1 S1 H1).at_ (upd H1 q (.tup (ts.map fun t => t.c D.K)))) w v := rv.le (G.le_ext (g := gOf B F1 ρ1 S1 H1) ex) fun a o _ z => ex a o z
      have ty := tyx_of rv2 htn
      exact ⟨v, q, _, .type n, _, b, rfl, upd_same, clsVs _ _, by rw [← hK] at ty ⊢; exact ty, isAny_kit (t := .bt n) o htn rfl e4, fin⟩
    · cases e4
/-! ### {} -/
def dDicN : DE := fun τ S => .ok (.own (.dic [] [])) τ S
theorem ve_dicN {pos : Pos} : VE D Wx (.Dict [] [] pos) dDicN := by
  refine ⟨tDNewK, fun X c => pe_dnewK, fun B E hK iw F ρ stk vstk τ σ S H C Q hl hh k p hp => ?_⟩
  have ex : Ext H (upd H p (.dK [])) := Ext.new hp
  exact k _ _ F ρ C (hh.result ex (res := .own (.dic [] [])) ⟨p, rfl, hp, .inl ⟨[], upd_same, rfl, Reps.nil⟩⟩)
end
end VM

set_option Elab.async false
set_option linter.all false
set_option maxRecDepth 100000
/-! VM34: a dict of one pair with a tuple for its key. -/
namespace VM
open PySem PySem.Spec L2
open PyProof.Rows hiding St
def tDispT (tk tv : TE) : TE := fun σ H Q => ∀ p, H p = none → tk σ (upd H p (.dT [])) fun x H1 => tv σ H1 fun y H2 =>
  H2 p = some (.dT []) ∧ ∃ (ks : List Key) (b : Addr), x = .ref b ∧ H2 b = some (.tup (ks.map kV)) ∧ Q (.ref p) (upd H2 p (.dT [(ks, y)]))
theorem pe_dispT {X : Cx} {ek ev : Expr} {tk tv : TE} {pos : Pos} (hu : X.A.units + 65 < cLine) (hk : PE X ek tk) (hv : PE X ev tv) : PE X (.Dict [some ek] [ev] pos) (tDispT tk tv) := by
  refine ⟨fun pins s σ H Q I q => ?_⟩
  have hn := I.hok.fresh (Nat.le_refl s.heap.objs.size)
  have I1 := I.laid (a := s.heap.objs.size) (o := .dT []) (h' := s.heap.push { cls := .type "dict", data := .dict #[] }) (t' := s.toks) (fun _ _ q => Heap.get?_push_of_some _ q)
    (Nat.le_refl _) (dt_empty s.heap I.big)
  have ln : (pairTrees [some ek] [ev] X.env pos).length = 1 := rfl
  rw [arm_eval_Dict, zip_pairTrees _ _ _ _ rfl rfl, dictDisplay_pairs _ (by intro z; rw [z] at ln; cases ln) (by rw [ln]; decide)]
  refine wpAny_bind (wpAny_standAt (wpAny_bind (wpAny_subDictH (knd := tupleKind (mixKind X.prog X.w)) (show X.A.units < cLine by omega) (by rw [ln]; decide) ?_)))
  refine pairTrees_cons_walk (thn (hk.run pins _ σ _ _ I1 (q _ hn)) fun u s2 ⟨x, H1, I2, rx, q1⟩ => thn (hv.run pins s2 σ H1 _ I2 q1) fun w3 s3 ⟨y, H2, I3, ry, e, ks, b, ex, eb, q2⟩ => pairTrees_nil_walk ?_)
  subst ex
  cases rx
  obtain ⟨z, hd, xs, rel, dd⟩ := dt_of I3.hok e
  cases rel
  refine ⟨[(ks, b, w3)], ⟨rfl, rfl, key_of I3.hok eb, trivial⟩, dd, fun h' tk dd' hs => wpAny_pure ⟨.ref s.heap.objs.size, _, ?_, rfl, q2⟩⟩
  obtain ⟨o, es, ep, ho, hc, hdat, hes, hks, hnd⟩ := dd'
  have hb : b ≠ s.heap.objs.size := fun z => by rw [z, e] at eb; cases eb
  exact d_write I3 (by rw [e]; exact True.intro) hs ⟨o, ho⟩ ⟨by show 1 ≤ _; rw [sizeLine_eq]; decide, hd, [(ks, b, w3)], .cons ⟨rfl, by rw [upd_ne hb]; exact eb, ry⟩ .nil, o, es, ep, ho, hc, hdat, hes, hnd⟩
section
variable {D : DC} {Wx : WX}
/-- texts told one by one -/
def txtsOf : List Expr → Option (List Str)
  | [] => some []
  | .Constant (.str x) _ _ :: r => (txtsOf r).map (x :: ·)
  | _ :: _ => none
theorem pa_txts {X : Cx} : ∀ {es : List Expr} {xs : List Str}, txtsOf es = some xs → PA X es (fun _ H Q => Q (xs.map .str) H)
  | [], _, h => by cases h; exact pa_nil
  | .Constant (.str x) _ _ :: r, _, h => by
    obtain ⟨s, h1, rfl⟩ := Option.map_eq_some_iff.mp (show (txtsOf r).map (x :: ·) = some _ from h)
    exact pa_cons pe_str (pa_txts h1) (starEach_cons rfl)
def dDicT (ks : List Str) (w : W) : DE := fun τ S => .ok (.own (.dic [.tup (ks.map .str)] [w])) τ S
theorem const_v {c : Const} {w : W} (h : cW c = some w) : ∃ v, (∀ X k p, PE X (.Constant c k p) (tC v)) ∧ ∀ g : G, Rep g w v := by
  cases c with
  | none => cases h; exact ⟨_, fun X k p => pe_non, fun g => repNon⟩
  | bool b => cases h; exact ⟨_, fun X k p => pe_bl, fun g => repBl b⟩
  | int b => cases h; exact ⟨_, fun X k p => pe_int, fun g => repInt b⟩
  | str x =>
    have h : (if x.length ≤ strLine ∧ PyData.strOk x = true then some (W.str x) else none) = some w := h
    split at h
    · rename_i hz
      cases h
      exact ⟨_, fun X k p => pe_str, fun g => repStr hz.1 hz.2⟩
    · cases h
  | _ => cases h
theorem ve_dicT {es : List Expr} {ks : List Str} {kk k2 : Nat} {p p2 pos : Pos} {c : Const} {w : W} (h1 : txtsOf es = some ks) (few : ks.length ≤ 100) (h2 : cW c = some w) : VE D Wx (.Dict [some (.Tuple es kk p)] [.Constant c k2 p2] pos) (dDicT ks w) := by
  obtain ⟨v, hv, rv⟩ := const_v h2
  refine ⟨tDispT (tTup (fun _ H Q => Q (ks.map .str) H)) (tC v), fun X c => pe_dispT c.un (pe_tup (pa_txts h1)) (hv X _ _), fun B E hK iw F ρ stk vstk τ σ S H C Q hl hh k p hp => ?_⟩
  refine ⟨by rw [List.length_map]; exact Nat.le_trans few (by rw [sizeLine_eq]; decide), fun q hq => ?_⟩
  have ne : q ≠ p := fun z => by rw [z, upd_same] at hq; cases hq
  have hq' : H q = none := by rw [upd_ne ne] at hq; exact hq
  have key : (ks.map (Sum.inr : Str → Key)).map kV = ks.map V.str := by rw [List.map_map] <;> rfl
  refine ⟨by rw [upd_ne ne.symm, upd_same], ks.map Sum.inr, q, rfl, by rw [upd_same, key], ?_⟩
  have ex : Ext H (upd (upd (upd H p (.dT [])) q (.tup (ks.map V.str))) p (.dT [(ks.map Sum.inr, v)])) := fun a o e => by
    have n1 : a ≠ p := fun z => by rw [z, hp] at e; cases e
    have n2 : a ≠ q := fun z => by rw [z, hq'] at e; cases e
    rw [upd_ne n1, upd_ne n2, upd_ne n1, e]
  refine k _ _ F ρ C (hh.result ex (res := .own (.dic [.tup (ks.map .str)] [w])) ⟨p, rfl, hp, .inr ⟨[(ks.map Sum.inr, v)], upd_same, ?_, Reps.cons (rv _) Reps.nil⟩⟩)
  show [W.tup (ks.map .str)] = [W.tup ((ks.map (Sum.inr : Str → Key)).map kW)]
  rw [List.map_map] <;> rfl
end
end VM

set_option Elab.async false
set_option linter.all false
/-! VM35: cells: what is boxed, what is read and changed by a handle. -/
namespace VM
open PySem PySem.Spec L2
open PyProof.Rows hiding St
def putMo : List (Nat × Cell) → Nat → MO → List (Nat × Cell)
  | [], _, _ => []
  | (k, c) :: r, n, m => if k = n then (k, .mo m) :: r else (k, c) :: putMo r n m
def Store.put (S : Store) (n : Nat) (m : MO) : Store := ⟨putMo S.cells n m, S.next⟩
def Store.box (S : Store) (m : MO) : Store := ⟨(S.next, .mo m) :: S.cells, S.next + 1⟩
theorem CellsR.put {g g' : G} (l : g.le g') {n : Nat} {m m' : MO} : ∀ {cs : List (Nat × Cell)} {C : List Addr}, CellsR g cs C → C.Nodup → cellMo cs n = some m →
    (∀ b, b ≠ g.ρ n → ∀ o, g.H b = some o → g'.H b = some o) → OwnR g' m' (g.ρ n) → CellsR g' (putMo cs n m') C := by
  intro cs C h
  induction h with
  | nil => intro _ e; cases e
  | @mo k m0 r C hn o rest ih =>
    intro nd e e' rn
    rw [List.nodup_cons] at nd
    have e : (if k = n then some m0 else cellMo r n) = some m := e
    show CellsR g' (if k = n then _ else _) _
    split at e
    · rename_i z
      subst z
      rw [if_pos rfl]
      have := CellsR.mo (g := g') (r := r) (C := C) (Nat.lt_of_lt_of_le hn l.nx) (by rw [l.ρ _ hn]; exact rn) (rest.le l fun b hb o q => e' b (fun z => nd.1 (by rw [← z]; exact hb)) o q)
      rw [l.ρ _ hn] at this
      exact this
    · rename_i z
      rw [if_neg z]
      have lk := (rest.look e).2
      have := CellsR.mo (g := g') (Nat.lt_of_lt_of_le hn l.nx) (by rw [l.ρ _ hn]; exact o.le l (e' _ fun z => nd.1 (by rw [z]; exact lk))) (ih nd.2 e e' rn)
      rw [l.ρ _ hn] at this
      exact this
  | @ins k Cn ks xs vs dx r C D hn hh hl hf rest ih =>
    intro nd e e' rn
    rw [List.nodup_cons, List.nodup_append] at nd
    obtain ⟨n1, n2, n3, n4⟩ := nd
    have e : (if k = n then none else cellMo r n) = some m := e
    show CellsR g' (if k = n then _ else _) _
    split at e
    · cases e
    · rename_i z
      rw [if_neg z]
      have lk := (rest.look e).2
      have := CellsR.ins (g := g') (Nat.lt_of_lt_of_le hn l.nx) (by rw [l.ρ _ hn, l.K]; exact e' _ (fun z => n1 (by rw [z]; exact List.mem_append_right _ lk)) _ hh) hl
        (hf.le l fun b hb o q => e' b (fun z => n4 b hb (g.ρ n) lk z) o q) (ih n3 e e' rn)
      rw [l.ρ _ hn] at this
      exact this
  | @fz k w' r C hn rp rest ih =>
    intro nd e e' rn
    have e : (if k = n then none else cellMo r n) = some m := e
    show CellsR g' (if k = n then _ else _) _
    split at e
    · cases e
    · rename_i z
      rw [if_neg z]
      exact .fz (Nat.lt_of_lt_of_le hn l.nx) (by rw [l.ρ _ hn]; exact Rep.le l _ _ rp) (ih nd e e' rn)
/-- a cell is frozen -/
def fzMo : List (Nat × Cell) → Nat → List (Nat × Cell)
  | [], _ => []
  | (k, .mo m) :: r, n => if k = n then (k, .fz m.fz) :: r else (k, .mo m) :: fzMo r n
  | (k, .ins C ks xs) :: r, n => (k, .ins C ks xs) :: fzMo r n
  | (k, .fz w) :: r, n => (k, .fz w) :: fzMo r n
def Store.fz (S : Store) (n : Nat) : Store := ⟨fzMo S.cells n, S.next⟩
theorem CellsR.frz {g g' : G} (l : g.le g') (eH : g'.H = g.H) {n : Nat} {m : MO} : ∀ {cs : List (Nat × Cell)} {C : List Addr}, CellsR g cs C → C.Nodup → cellMo cs n = some m → Rep g' m.fz (.ref (g.ρ n)) →
    ∃ C', CellsR g' (fzMo cs n) C' ∧ C'.Nodup ∧ ∀ a ∈ C', a ∈ C ∧ a ≠ g.ρ n := by
  intro cs C h
  induction h with
  | nil => intro _ e; cases e
  | @mo k m0 r C hn o rest ih =>
    intro nd e rp
    rw [List.nodup_cons] at nd
    have e : (if k = n then some m0 else cellMo r n) = some m := e
    show ∃ C', CellsR g' (if k = n then _ else _) C' ∧ _
    split at e
    · rename_i z
      cases e
      subst z
      rw [if_pos rfl]
      refine ⟨C, .fz (Nat.lt_of_lt_of_le hn l.nx) (by rw [l.ρ _ hn]; exact rp) (rest.le l fun b _ o q => by rw [eH]; exact q), nd.2, fun a ha => ⟨List.mem_cons_of_mem _ ha, fun z => nd.1 (by rw [← z]; exact ha)⟩⟩
    · rename_i z
      rw [if_neg z]
      have lk := (rest.look e).2
      obtain ⟨C', c1, c2, c3⟩ := ih nd.2 e rp
      have := CellsR.mo (g := g') (Nat.lt_of_lt_of_le hn l.nx) (by rw [l.ρ _ hn]; exact o.le l fun o q => by rw [eH]; exact q) c1
      rw [l.ρ _ hn] at this
      refine ⟨_, this, List.nodup_cons.mpr ⟨fun q => nd.1 (c3 _ q).1, c2⟩, fun a ha => ?_⟩
      rcases List.mem_cons.mp ha with rfl | ha
      · exact ⟨List.mem_cons_self, fun z => nd.1 (by rw [z]; exact lk)⟩
      · exact ⟨List.mem_cons_of_mem _ (c3 a ha).1, (c3 a ha).2⟩
  | @ins k Cn ks xs vs dx r C D hn hh hl hf rest ih =>
    intro nd e rp
    rw [List.nodup_cons, List.nodup_append] at nd
    obtain ⟨n1, n2, n3, n4⟩ := nd
    have e : (if k = n then none else cellMo r n) = some m := e
    split at e
    · cases e
    · rename_i z
      have lk := (rest.look e).2
      obtain ⟨C', c1, c2, c3⟩ := ih n3 e rp
      have := CellsR.ins (g := g') (Nat.lt_of_lt_of_le hn l.nx) (by rw [l.ρ _ hn, l.K, eH]; exact hh) hl (hf.le l fun b hb o q => by rw [eH]; exact q) c1
      rw [l.ρ _ hn] at this
      refine ⟨_, this, ?_, fun a ha => ?_⟩
      · rw [List.nodup_cons, List.nodup_append]
        refine ⟨fun q => ?_, n2, c2, fun a ha b hb => n4 a ha b (c3 b hb).1⟩
        rcases List.mem_append.mp q with q | q
        · exact n1 (List.mem_append_left _ q)
        · exact n1 (List.mem_append_right _ (c3 _ q).1)
      · rcases List.mem_cons.mp ha with rfl | ha
        · exact ⟨List.mem_cons_self, fun z => n1 (by rw [z]; exact List.mem_append_right _ lk)⟩
        · rcases List.mem_append.mp ha with ha | ha
          · exact ⟨List.mem_cons_of_mem _ (List.mem_append_left _ ha), n4 a ha _ lk⟩
          · exact ⟨List.mem_cons_of_mem _ (List.mem_append_right _ (c3 a ha).1), (c3 a ha).2⟩
  | @fz k w' r C hn rp' rest ih =>
    intro nd e rp
    have e : (if k = n then none else cellMo r n) = some m := e
    split at e
    · cases e
    · obtain ⟨C', c1, c2, c3⟩ := ih nd e rp
      exact ⟨C', .fz (Nat.lt_of_lt_of_le hn l.nx) (by rw [l.ρ _ hn]; exact Rep.le l _ _ rp') c1, c2, c3⟩
section
variable {B : Base} {E : XW} {D : DC} {Wx : WX}
theorem StR.frz {F : Addr → Prop} {ρ : Nat → Addr} {gs : List Sl} {gv : List (Option V)} {S : Store} {H : Hp} {C : List Addr} {n : Nat} {m : MO} (h : StR B F ρ gs gv S H C) (e : cellMo S.cells n = some m) :
    (∃ C', StR B (fun b => F b ∨ b = ρ n) ρ gs gv (S.fz n) H C') ∧ Rep (gOf B (fun b => F b ∨ b = ρ n) ρ S H) m.fz (.ref (ρ n)) := by
  have lk := h.cel.look e
  have inC : ρ n ∈ C := lk.2
  have own := lk.1
  have le : (gOf B F ρ S H).le (gOf B (fun b => F b ∨ b = ρ n) ρ S H) := ⟨rfl, Nat.le_refl _, fun _ _ => rfl, fun _ q => .inl q, fun b o e _ => e⟩
  have rp : Rep (gOf B (fun b => F b ∨ b = ρ n) ρ S H) m.fz (.ref (ρ n)) := by
    cases m with
    | lst xs =>
      obtain ⟨vs, q, r⟩ := own
      show Rep _ (.lst xs) _
      unfold Rep
      exact ⟨ρ n, vs, rfl, .inl ⟨.inr rfl, q⟩, Reps.le le _ _ r⟩
    | dic ks xs =>
      show Rep _ (.dic ks xs) _
      unfold Rep
      refine ⟨ρ n, rfl, .inr rfl, ?_⟩
      rcases own with ⟨kvs, h1, h2, h3⟩ | ⟨kvs, h1, h2, h3⟩
      · exact .inl ⟨kvs, h1, h2, Reps.le le _ _ h3⟩
      · exact .inr ⟨kvs, h1, h2, Reps.le le _ _ h3⟩
  obtain ⟨C', c1, c2, c3⟩ := h.cel.frz le rfl h.cnd e rp
  refine ⟨⟨C', h.len, fun j sl v q1 q2 => (h.ent j sl v q1 q2).le le fun b o _ _ z => z, h.uniq, fun j m1 b q1 q2 z => ?_, fun j m1 b q1 q2 z => h.nC j m1 b q1 q2 (c3 b z).1, fun j w b q1 q2 z => h.pC j w b q1 q2 (c3 b z).1, c1, c2, fun b hb z => ?_,
    fun b hb => h.cH b (c3 b hb).1, fun b hb => ?_, h.keep, fun b hb => .inl (h.fF b hb), fun b hb => ?_, fun b hb => h.cN b (c3 b hb).1, h.oN, h.rho, h.nx⟩, rp⟩
  · rcases z with z | z
    · exact h.nF j m1 b q1 q2 z
    · rw [z] at q2; exact h.nC j m1 _ q1 q2 inC
  · rcases z with z | z
    · exact h.cF b (c3 b hb).1 z
    · exact (c3 b hb).2 z
  · rcases hb with hb | hb
    · exact h.fT b hb
    · rw [hb]; exact h.cH _ inC
  · rcases hb with hb | hb
    · exact h.fN b hb
    · rw [hb]
      rcases h.cN _ inC with q | q
      · exact .inr (.inl q)
      · exact .inr (.inr q)
/-- what a handle tells, from here on for good -/
def dFz (d : DE) : DE := fun τ S => (d τ S).bind fun x τ S => match x with
  | .val (.hnd n) => (match cellMo S.cells n with
    | some m => .ok (.val m.fz) τ (S.fz n)
    | none => .no)
  | x => .ok x τ S
theorem ve_fz {e : Expr} {d : DE} (h : VE D Wx e d) : VE D Wx e (dFz d) := by
  obtain ⟨t, p, s⟩ := h
  refine ⟨t, p, fun B E hK i F ρ stk vstk τ σ S H C Q hl h k => s B E hK i F ρ stk vstk τ σ S H C Q hl h (k.bind.mono fun x τ1 S1 k v H1 F1 ρ1 C1 h1 => ?_)⟩
  have go : ∀ n, x = .val (.hnd n) → Q v H1 := fun n ex => by
    subst ex
    have k : RP (match cellMo S1.cells n with
      | some m => R.ok (Sl.val m.fz) τ1 (S1.fz n)
      | none => R.no) _ _ := k
    cases em : cellMo S1.cells n with
    | none => rw [em] at k; exact k.elim
    | some m =>
      rw [em] at k
      obtain ⟨v', ev, rv⟩ := StR.top h1
      cases ev
      have rv : v = .ref (ρ1 n) := by unfold Rep at rv; exact rv.2
      obtain ⟨⟨C', h2⟩, rp⟩ := h1.frz em
      exact k v H1 _ ρ1 C' ((StR.pop h2).push (by rw [rv]; exact rp))
  by_cases ex : ∃ n, x = .val (.hnd n)
  · obtain ⟨n, ex⟩ := ex
    exact go n ex
  · have k : RP (R.ok x τ1 S1) (Post B stk vstk σ Q) E := by
      split at k
      · exact (ex ⟨_, rfl⟩).elim
      · exact k
    exact k v H1 F1 ρ1 C1 h1
/-- a cell is changed -/
theorem StR.cell {F : Addr → Prop} {ρ : Nat → Addr} {gs : List Sl} {gv : List (Option V)} {S : Store} {H : Hp} {C : List Addr} {n : Nat} {m m' : MO} {o' : HO} (h : StR B F ρ gs gv S H C) (e : cellMo S.cells n = some m)
    (r : OwnR (gOf B F ρ S (upd H (ρ n) o')) m' (ρ n)) : StR B F ρ gs gv (S.put n m') (upd H (ρ n) o') C := by
  have lk := h.cel.look e
  have own := lk.1
  have inC : ρ n ∈ C := lk.2
  have nF := h.cF _ inC
  obtain ⟨o0, eo, im⟩ := own.isM
  have le : (gOf B F ρ S H).le (gOf B F ρ S (upd H (ρ n) o')) := le_own own nF o'
  have ne : ∀ {b : Addr}, b ≠ ρ n → upd H (ρ n) o' b = H b := fun q => upd_ne q
  refine ⟨h.len, fun j sl v q1 q2 => ?_, h.uniq, h.nF, h.nC, h.pC, ?_, h.cnd, h.cF, fun b hb => ?_, fun b hb => ?_, fun b o q z => ?_, h.fF, h.fN, h.cN, h.oN, h.rho, h.nx⟩
  · refine (h.ent j sl v q1 q2).le le fun b o ev k z => ?_
    have : b ≠ ρ n := fun z => by
      subst z
      rcases k with ⟨m1, rfl⟩ | ⟨w, rfl⟩
      · exact h.nC j m1 _ q1 (by rw [q2, ev]) inC
      · exact h.pC j w _ q1 (by rw [q2, ev]) inC
    show upd H (ρ n) o' b = some o
    rw [ne this]; exact z
  · exact CellsR.put le h.cel h.cnd e (fun b hb o q => by show upd H (ρ n) o' b = some o; rw [ne hb]; exact q) r
  · by_cases z : b = ρ n
    · rw [z, upd_same]; exact Option.some_ne_none _
    · rw [ne z]; exact h.cH b hb
  · rw [ne (fun z => nF (by rw [← z]; exact hb))]; exact h.fT b hb
  · have : b ≠ ρ n := fun y => by
      subst y
      rcases h.cN _ inC with y | y
      · exact z y
      · rw [y] at q; cases q
    rw [ne this]; exact h.keep b o q z
/-- what is owned becomes a cell -/
theorem StR.boxed {F : Addr → Prop} {ρ : Nat → Addr} {m : MO} {a : Addr} {τ : List Sl} {σ : List (Option V)} {S : Store} {H : Hp} {C : List Addr} (h : StR B F ρ (.own m :: τ) (some (.ref a) :: σ) S H C) (np : ∀ (j : Nat) (w : W), τ[j]? ≠ some (Sl.pk w)) :
    StR B F (fun k => if k = S.next then a else ρ k) (.val (.hnd S.next) :: τ) (some (.ref a) :: σ) (S.box m) H (a :: C) := by
  obtain ⟨a', ev, own⟩ := h.ent 0 _ _ rfl rfl
  cases ev
  have nF := h.nF 0 m a rfl rfl
  have nC := h.nC 0 m a rfl rfl
  obtain ⟨o0, eo, im⟩ := own.isM
  have le : (gOf B F ρ S H).le ⟨B.K, fun k => if k = S.next then a else ρ k, S.next + 1, F, H⟩ :=
    ⟨rfl, Nat.le_succ _, fun n hn => if_neg (Nat.ne_of_lt hn), fun _ q => q, fun b o e _ => e⟩
  have len := h.len
  have other : ∀ {j : Nat} {sl : Sl}, (Sl.val (.hnd S.next) :: τ)[j]? = some sl → (j = 0 ∧ sl = .val (.hnd S.next)) ∨ ∃ i, j = i + 1 ∧ τ[i]? = some sl := fun {j sl} e => by
    cases j with
    | zero => exact .inl ⟨rfl, (Option.some.inj e).symm⟩
    | succ i => exact .inr ⟨i, rfl, e⟩
  have ownO : ∀ {j : Nat} {m1 : MO}, (Sl.val (.hnd S.next) :: τ)[j]? = some (.own m1) → (Sl.own m :: τ)[j]? = some (.own m1) ∧ j ≠ 0 := fun {j m1} e => by
    rcases other e with ⟨rfl, z⟩ | ⟨i, rfl, q⟩
    · cases z
    · exact ⟨q, by omega⟩
  refine ⟨by simpa using len, fun j sl v q1 q2 => ?_, fun j k m1 m2 b q1 q2 q3 q4 => ?_, fun j m1 b q1 q2 => ?_, fun j m1 b q1 q2 => ?_, fun j w b q1 q2 => ?_, ?_, ?_, ?_, ?_, h.fT, h.keep, h.fF, h.fN, ?_, fun j m1 b q1 q2 => ?_, fun n hn => ?_, ?_⟩
  · rcases other q1 with ⟨rfl, rfl⟩ | ⟨i, rfl, q⟩
    · cases q2
      refine ⟨_, rfl, ?_⟩
      show Rep _ (.hnd S.next) _
      unfold Rep
      exact ⟨Nat.lt_succ_self _, by show _ = V.ref (if _ then _ else _); rw [if_pos rfl]⟩
    · exact (h.ent (i + 1) sl v q q2).le le fun b o _ _ z => z
  · exact h.uniq j k m1 m2 b (ownO q1).1 q2 (ownO q3).1 q4
  · exact h.nF j m1 b (ownO q1).1 q2
  · intro z
    rcases List.mem_cons.mp z with z | z
    · subst z
      exact (ownO q1).2 (h.uniq j 0 m1 m b (ownO q1).1 q2 rfl rfl)
    · exact h.nC j m1 b (ownO q1).1 q2 z
  · rcases other q1 with ⟨_, z⟩ | ⟨i, rfl, q⟩
    · cases z
    · exact (np i w q).elim
  · have := CellsR.mo (g := ⟨B.K, fun k => if k = S.next then a else ρ k, S.next + 1, F, H⟩) (n := S.next) (m := m) (Nat.lt_succ_self _) (by
      show OwnR _ m (if _ then _ else _)
      rw [if_pos rfl]
      exact own.le le fun o z => z) (h.cel.le le fun b _ o z => z)
    rw [show (⟨B.K, fun k => if k = S.next then a else ρ k, S.next + 1, F, H⟩ : G).ρ S.next = a from if_pos rfl] at this
    exact this
  · exact List.nodup_cons.mpr ⟨nC, h.cnd⟩
  · intro b hb
    rcases List.mem_cons.mp hb with rfl | hb
    · exact nF
    · exact h.cF b hb
  · intro b hb
    rcases List.mem_cons.mp hb with rfl | hb
    · rw [show H b = some o0 from eo]; exact Option.some_ne_none _
    · exact h.cH b hb
  · intro b hb
    rcases List.mem_cons.mp hb with rfl | hb
    · exact h.oN 0 m b rfl rfl
    · exact h.cN b hb
  · exact h.oN j m1 b (ownO q1).1 q2
  · show (if n = S.next then a else ρ n) = _
    rw [if_neg (by have := h.nx; omega)]
    exact h.rho n hn
  · exact Nat.le_succ_of_le h.nx
/-- a name that holds handles: what is fresh becomes a cell -/
def gBox (i : Nat) : DG := fun r τ S => match r with
  | .own m => if (τ.any Sl.isPk) = false then .nx (τ.set i (.val (.hnd S.next))) (S.box m) else .no
  | .val w => .nx (τ.set i (.val w)) S
  | _ => .no
theorem vg_box {i : Nat} {x : Str} {pos : Pos} (o : DOk D) (hi : D.N[i]? = some x) (hx : locC D x = true) : VG D Wx (.Name x pos) (gBox i) := by
  refine ⟨_, fun X c => pg_name (by rw [c.N]; exact o.nd) (by rw [c.N]; exact hi) (loc_of c hx).1 (loc_of c hx).2, fun B E hK iw F ρ r v τ σ S H C D h k => ?_⟩
  cases r with
  | no => exact k.elim
  | pk _ => exact k.elim
  | val w => exact k _ H F ρ C (StR.assign i h)
  | own m =>
    have k : OP B E D (if (τ.any Sl.isPk) = false then _ else _) := k
    split at k
    · rename_i hpk
      obtain ⟨a, ev, _⟩ := h.ent 0 _ _ rfl rfl
      cases ev
      exact k _ H F _ _ (StR.assign i (h.boxed (no_pk hpk)))
    · exact k.elim
end
end VM

set_option Elab.async false
set_option linter.all false
set_option maxRecDepth 100000
/-! VM36: what changes a cell. -/
namespace VM
open PySem PySem.Spec L2
open PyProof.Rows hiding St
section
variable {B : Base} {E : XW} {D : DC} {Wx : WX}
/-- a method that changes what a handle tells -/
def dMutH (T : String) (f : MF) (o : DE) (args : DA) : DE := fun τ S => (o τ S).bind fun x τ S => match x with
  | .val (.hnd n) => (match cellMo S.cells n with
    | some m0 => if m0.ty = T then (args τ S).bind fun rs τ S => (match cellMo S.cells n with
        | some m => (R.of (f m rs) τ S).bind fun p τ S => .ok (.val p.1) τ (S.put n p.2)
        | none => .no) else .no
    | none => .no)
  | _ => .no
theorem rep_hnd {g : G} {n : Nat} {v : V} (h : Rep g (.hnd n) v) : v = .ref (g.ρ n) := by unfold Rep at h; exact h.2
theorem sim_mutH {K : PySem.W.Frag} {T : String} {f : MF} {r : V → List V → Hp → VK → Prop} {to : TE} {t : TA} {dob : DE} {d : DA} (hK : K = B.K) (hf : SimM K T f r) (so : Sim B E to dob) (s : SimA B E t d) : Sim B E (tBM K T r to t) (dMutH T f dob d) := by
  intro F ρ stk vstk τ σ S H C Q hl h k
  refine so F ρ stk vstk τ σ S H C _ hl h (k.bind.mono fun x τ1 S1 k v H1 F1 ρ1 C1 h1 => ?_)
  split at k
  · rename_i n
    split at k
    · rename_i m0 e0
      split at k
      · rename_i hT
        obtain ⟨v', ev, rv⟩ := StR.top h1
        cases ev
        have rv := rep_hnd rv
        refine ⟨by subst hK; rw [← hT, rv]; exact (h1.cel.look e0).1.ty, ?_⟩
        refine s F1 ρ1 (.val (.hnd n) :: stk) (some v :: vstk) τ1 σ S1 H1 C1 _ (by simp [hl]) h1 (k.bind.mono fun rs τ2 S2 k vs H2 F2 ρ2 C2 e2 h2 => ?_)
        split at k
        · rename_i m em
          obtain ⟨⟨w, m'⟩, e4, k⟩ := k.bind.of
          have hp := tops e2 h2
          have h3 := popAll e2 h2
          obtain ⟨v2, ev, rv2⟩ := StR.top h3
          cases ev
          have rv2 : v = .ref (ρ2 n) := rep_hnd rv2
          rw [rv2]
          have own := (h3.cel.look em).1
          have nF := h3.cF _ (h3.cel.look em).2
          refine hf (gOf B F2 ρ2 S2 H2) m (ρ2 n) rs vs w m' Q hK.symm own hp e4 (fun o q => le_own own nF o) nF fun u o r1 r2 => ?_
          have h4 := (StR.pop h3).cell em r1
          exact k u _ F2 ρ2 C2 (h4.push r2)
        · exact k.elim
      · exact k.elim
    · exact k.elim
  · exact k.elim
theorem ve_mutH {T : String} {id : String} {f : MF} {r : V → List V → Hp → VK → Prop} {name : Str} {apos cpos : Pos} {o e : Expr} {es : List Expr} {dob : DE} {d : DA} (hf : SimM D.K T f r)
    (pa : PlainAttrs T) (slot : Slot T name id) (hty : typeOf (.builtin id) = pure (.type "method_descriptor")) (hm : ∀ X, CxOk D Wx X → MtR X id r) (ho : VE D Wx o dob) (ha : VA D Wx (e :: es) d) (hbase : plainBase o = true)
    (hs : callC apos cpos (e :: es) = true) : VE D Wx (.Call (.Attribute o name apos) (e :: es) [] cpos) (dMutH T f dob d) := by
  obtain ⟨to, po, so⟩ := ho
  obtain ⟨t, pt, s⟩ := ha
  exact ⟨tBM D.K T r to t, fun X c => by rw [← c.K]; exact pe_bm pa slot hty (hm X c) (po X c) (pt X c) (ab_plain hbase) (few_of hs) (line_of hs) (starEach_cons (ns_of hs).1) (backTo_none (starEach_none (ns_of hs).2)),
    fun B E hK iw => sim_mutH hK.symm hf (so B E hK iw) (s B E hK iw)⟩
theorem ve_mutH0 {T : String} {id : String} {f : MF} {r : V → List V → Hp → VK → Prop} {name : Str} {apos cpos : Pos} {o : Expr} {dob : DE} (hf : SimM D.K T f r)
    (pa : PlainAttrs T) (slot : Slot T name id) (hty : typeOf (.builtin id) = pure (.type "method_descriptor")) (hm : ∀ X, CxOk D Wx X → MtR X id r) (ho : VE D Wx o dob) (hbase : plainBase o = true)
    (hs : callC apos cpos [] = true) : VE D Wx (.Call (.Attribute o name apos) [] [] cpos) (dMutH T f dob dNil) := by
  obtain ⟨to, po, so⟩ := ho
  exact ⟨tBM0 D.K T r to, fun X c => by rw [← c.K]; exact pe_bm0 pa slot hty (hm X c) (po X c) (ab_plain hbase) (line_of hs), fun B E hK iw F ρ stk vstk τ σ S H C Q hl h k =>
    sim_mutH (B := B) (E := E) (t := tNil) (d := dNil) hK.symm hf (so B E hK iw) (fun F ρ stk vstk τ σ S H C Q hl h k => k [] H F ρ C rfl h) F ρ stk vstk τ σ S H C Q hl h k⟩
end
end VM

set_option Elab.async false
set_option linter.all false
set_option maxRecDepth 100000
/-! VM37: o[i] = v, of a list or a dict that a handle tells. -/
namespace VM
open PySem PySem.Spec L2
open PyProof.Rows hiding St
theorem vals_set : ∀ {xs : List V} {us : List Value} {j : Nat} {v : V} {u : Value}, Vals xs us → RelV v u → Vals (xs.set j v) (us.set j u)
  | _, _, _, _, _, .nil, _ => .nil
  | _, _, 0, _, _, .cons _ t, r => .cons r t
  | _, _, _ + 1, _, _, .cons a t, r => .cons a (vals_set t r)
theorem reps_set {g : G} : ∀ {ws : List W} {vs : List V} {j : Nat} {w : W} {v : V}, Reps g ws vs → Rep g w v → Reps g (ws.set j w) (vs.set j v)
  | [], _, _, _, _, h, _ => by
    have : _ = [] := h
    subst this
    exact Reps.nil
  | x :: ws, _, 0, _, _, h, r => by
    obtain ⟨u, s, rfl, h1, h2⟩ := (show ∃ v s, _ = v :: s ∧ Rep g x v ∧ Reps g ws s by unfold Reps at h; exact h)
    exact Reps.cons r h2
  | x :: ws, _, j + 1, _, _, h, r => by
    obtain ⟨u, s, rfl, h1, h2⟩ := (show ∃ v s, _ = v :: s ∧ Rep g x v ∧ Reps g ws s by unfold Reps at h; exact h)
    exact Reps.cons h1 (reps_set h2 r)
section
variable {X : Cx} {pins : List (Addr × Obj)} {σ : St} {H : Hp} {s : Shared} {l : Addr} {xs : List V} {k : Int} {tk : Tok} {v : V} {r : Value}
theorem lset_at {Q : Unit → Shared → Prop} (I : Inv X pins σ H s) (hH : H l = some (.lst xs)) (h0 : 0 ≤ k) (hk : k < xs.length) (rv : RelV v r)
    (h : ∀ s', Inv X pins σ (upd H l (.lst (xs.set k.toNat v))) s' → Q () s') : wpAny (model X.prog X.w) X.A (setItem (.ref l) (.int k tk) r) Q X.xe s := by
  obtain ⟨z, its, n, rl, hl, e⟩ := I.lstM hH
  have hL : s.heap.IsList l its.toArray := PySem.IsL.isList e
  have len : its.length = xs.length := rl.length.symm
  have hfit : Builtin.List.listFitsIndex k = true := fitsIndex_of h0 (by rw [sizeLine_eq] at z; omega)
  unfold setItem
  try with_reducible refine wpAny_holding ?_
  first | refine wpAny_bind (wpAny_pure ?_) | skip
  have ty := hL.typeIs
  refine wpAny_bind (wpAny_sequenceKey ty (by decide) ?_)
  have sl := slot_list_setitem
  refine wpAny_bind (wpAny_callSpecial?_slot (name := Str.ofString "__setitem__") ty sl (wpAny_call_entry sl ty entry_list_setitem ?_ (args_list_setitem _ _ _)))
  show wpAny _ _ (Builtin.List.listSubscript? (.int k tk) >>= _) _ _ s
  refine wpAny_bind (wpAny_listSubscript_int hfit ?_)
  clear hfit
  obtain ⟨j, rfl⟩ := Int.eq_ofNat_of_zero_le h0
  have hj : j < its.toArray.size := by rw [List.size_toArray]; omega
  have hx : its.toArray[j]? = some its.toArray[j] := Array.getElem?_eq_getElem hj
  show wpAny _ _ ((seqItemAt l j >>= fun q => pure (q.map (j, ·))) >>= _) _ _ s
  refine wpAny_bind (wpAny_bind (wpAny_seqItemAt e rfl (wpAny_pure ?_)))
  rw [hx]
  show wpAny _ _ (setSeqItemAt l j r >>= _) _ _ s
  refine wpAny_bind (wpAny_setSeqItemAt e rfl ?_)
  have J := I.lset (t' := s.toks) (f := fun q => q.setIfInBounds j r) (its' := its.set j r) hH e (by simp) (vals_set (j := j) rl rv) (by rw [List.length_set]; exact z)
  first
    | exact wpAny_bind (wpAny_pure (wpAny_pure ⟨.none, rfl, wpAny_pure (h _ J)⟩))
    | exact wpAny_pure ⟨.none, rfl, wpAny_pure (h _ J)⟩
/-- an empty dict may be of either kind -/
def Flip (H : Hp) (a : Addr) (H' : Hp) : Prop := H' = H ∨ (H a = some (.dK []) ∧ H' = upd H a (.dT [])) ∨ (H a = some (.dT []) ∧ H' = upd H a (.dK []))
theorem inv_flip {H' : Hp} {a : Addr} (I : Inv X pins σ H s) (f : Flip H a H') : Inv X pins σ H' s := by
  rcases f with rfl | ⟨e, rfl⟩ | ⟨e, rfl⟩
  · exact I
  · obtain ⟨z, hd, vs, rel, dd⟩ := dk_of I.hok e
    cases rel
    obtain ⟨o, es, ep, ho, hc, hdat, _, hp, _⟩ := dd
    have he : es.toList = [] := by
      cases h : es.toList with
      | nil => rfl
      | cons x r => rw [h] at hp; cases hp
    exact d_write (t' := s.toks) I (by rw [e]; exact True.intro) (Heap.SameBut.refl _ _) ⟨o, ho⟩ ⟨z, hd, [], .nil, o, es, ep, ho, hc, hdat, by rw [he] <;> rfl, List.nodup_nil⟩
  · obtain ⟨z, hd, xs, rel, dd⟩ := dt_of I.hok e
    cases rel
    obtain ⟨o, es, ep, ho, hc, hdat, he, _⟩ := dd
    have he : es.toList = [] := he
    have hk : PySem.KeysOf (mixKind X.prog X.w) es := by
      intro x hx
      have : es = #[] := Array.toList_inj.mp he
      subst this
      simp at hx
    exact d_write (t' := s.toks) I (by rw [e]; exact True.intro) (Heap.SameBut.refl _ _) ⟨o, ho⟩ ⟨z, hd, [], .nil, o, es, ep, ho, hc, hdat, hk, by rw [he]; exact .nil, List.nodup_nil⟩
def LPut (H : Hp) (a : Addr) (y v : V) (H' : Hp) : Prop := ∃ (xs : List V) (k : Int), H a = some (.lst xs) ∧ y = .int k ∧ 0 ≤ k ∧ k < xs.length ∧ H' = upd H a (.lst (xs.set k.toNat v))
def sPutX (td ty tv : TE) : TS := fun D σ H => tv σ H fun v H1 => td σ H1 fun x H2 => ty σ H2 fun y H3 => ∃ a H5 H4, x = .ref a ∧ Flip H3 a H5 ∧ (DPut H5 a y v H4 ∨ LPut H5 a y v H4) ∧ D.nx σ H4
theorem ps_putX {o i value : Expr} {pos' pos : Pos} {td ty tv : TE} (hu : X.A.units + 1 < cLine) (ho : PE X o td) (hi : PE X i ty) (hv : PE X value tv) (hs : swapsWith value (some (.Subscript o i pos')) pos.line X.env = pure false) :
    PS X (.Assign [.Subscript o i pos'] value pos) (sPutX td ty tv) := by
  refine ⟨fun pins s σ H D I h => ?_⟩
  refine wpAny_Assign_Subscript (thn (hv.run pins s σ H _ I h) fun r s1 ⟨v, H1, I1, rv, q1⟩ => thn (ho.run pins s1 σ H1 _ I1 q1) fun u s2 ⟨x, H2, I2, rx, q2⟩ =>
    thn (hi.run pins s2 σ H2 _ I2 q2) fun iv s3 ⟨y, H3, I3, ry, a, H5, H4, ex, fl, g, q3⟩ => ?_) hs
  have I3 := inv_flip I3 fl
  subst ex
  cases (show u = Value.ref a from rx)
  rcases g with g | ⟨xs, k, e, ey, h0, hk, eH⟩
  · exact d_setItem hu I3 g ry rv fun s4 I4 => ⟨σ, H4, I4, q3⟩
  · subst ey eH
    obtain ⟨t, rfl⟩ := ry
    exact lset_at I3 e h0 hk rv fun s4 I4 => ⟨σ, _, I4, q3⟩
end
end VM

set_option Elab.async false
set_option linter.all false
set_option maxRecDepth 100000
/-! VM38: o[i] = v by values. -/
namespace VM
open PySem PySem.Spec L2
open PyProof.Rows hiding St
def keyW : W → Option Key
  | .int i => some (.inl i)
  | .str x => some (.inr x)
  | _ => none
def keysW : List W → Option (List Key)
  | [] => some []
  | x :: r => match keyW x, keysW r with
    | some k, some ks => some (k :: ks)
    | _, _ => none
def setKeys {K : Type} [DecidableEq K] (k : K) (w : W) : List K → List W → List W
  | x :: r, y :: s => (if x = k then w else y) :: setKeys k w r s
  | _, s => s
def dput {K : Type} [DecidableEq K] (ks xs : List W) (y w : W) (k : K) (kk : List K) : MO :=
  if (kk.any fun x => decide (x = k)) = true then .dic ks (setKeys k w kk xs) else .dic (ks ++ [y]) (xs ++ [w])
/-- what a store makes of a list or a dict -/
def fPut : MO → W → W → Option MO
  | .lst xs, y, w => (match y with
    | .int k => if 0 ≤ k ∧ k < (xs.length : Int) then some (.lst (xs.set k.toNat w)) else none
    | _ => none)
  | .dic ks xs, y, w => if ks.length < 1000000 then (match keyW y with
    | some k => (keysW ks).map fun kk => dput ks xs y w k kk
    | none => none) else none
theorem keyW_eq {y : W} {k : Key} (h : keyW y = some k) : y = kW k := by
  cases y with
  | int i => cases h; rfl
  | str x => cases h; rfl
  | _ => cases h
theorem keyW_kW (k : Key) : keyW (kW k) = some k := by cases k <;> rfl
theorem keysW_map : ∀ l : List Key, keysW (l.map kW) = some l
  | [] => rfl
  | k :: l => by
    show (match keyW (kW k), keysW (l.map kW) with
      | some k, some ks => some (k :: ks)
      | _, _ => none) = _
    rw [keyW_kW, keysW_map l]
theorem keysW_nil {ks : List (List Key)} {kk : List Key} (h : keysW (ks.map fun p => W.tup (p.map kW)) = some kk) : ks = [] := by
  cases ks with
  | nil => rfl
  | cons p r => cases h
theorem rd_key {g : G} {k : Key} {v : V} (h : RdW g (kW k) v) : v = kV k := by
  cases k with
  | inl i => exact h
  | inr x =>
    have h : v = .str x ∧ _ := h
    exact h.1
theorem setKeys_reps {K : Type} [DecidableEq K] {g : G} {k : K} {w : W} {v : V} (r : Rep g w v) : ∀ {kvs : List (K × V)} {xs : List W}, Reps g xs (kvs.map (·.2)) →
    Reps g (setKeys k w (kvs.map (·.1)) xs) ((kvs.map fun kv => if kv.1 = k then (kv.1, v) else kv).map (·.2))
  | [], xs, h => by
    cases xs with
    | nil => exact Reps.nil
    | cons x s => exact h
  | p :: kvs, xs, h => by
    cases xs with
    | nil =>
      have : (p :: kvs).map (·.2) = [] := h
      cases this
    | cons x s =>
      obtain ⟨u, t, e, h1, h2⟩ := (show ∃ v s', (p :: kvs).map (·.2) = v :: s' ∧ Rep g x v ∧ Reps g s s' by unfold Reps at h; exact h)
      rw [List.map_cons] at e
      obtain ⟨rfl, rfl⟩ := List.cons.inj e
      have ih := setKeys_reps (k := k) r h2
      show Reps g ((if p.1 = k then w else x) :: setKeys k w (kvs.map (·.1)) s) ((if p.1 = k then (p.1, v) else p).2 :: _)
      by_cases c : p.1 = k
      · rw [if_pos c, if_pos c]; exact Reps.cons r ih
      · rw [if_neg c, if_neg c]; exact Reps.cons h1 ih
theorem map_fst {K : Type} [DecidableEq K] {k : K} {v : V} (kvs : List (K × V)) : (kvs.map fun kv => if kv.1 = k then (kv.1, v) else kv).map (·.1) = kvs.map (·.1) := by
  rw [List.map_map]
  exact List.map_congr_left fun p _ => by
    show (if p.1 = k then (p.1, v) else p).1 = p.1
    split <;> rfl
/-- a dict is stored to, by pairs and by values -/
theorem dput_ok {g : G} {k : Key} {w : W} {v : V} {kvs : List (Key × V)} {ks xs : List W} (r : Rep g w v) (hk : ks = kvs.map fun p => kW p.1) (h : Reps g xs (kvs.map (·.2))) :
    ∃ ks' xs', dput ks xs (kW k) w k (kvs.map (·.1)) = .dic ks' xs' ∧ ks' = ((putK kvs k v).map fun p => kW p.1) ∧ Reps g xs' ((putK kvs k v).map (·.2)) := by
  have e : ((kvs.map (·.1)).any fun x => decide (x = k)) = (kvs.any fun kv => decide (kv.1 = k)) := by rw [List.any_map] <;> rfl
  unfold dput putK
  rw [e]
  by_cases c : (kvs.any fun kv => decide (kv.1 = k)) = true
  · rw [if_pos c, if_pos c]
    refine ⟨_, _, rfl, ?_, setKeys_reps r h⟩
    rw [hk]
    have two : ∀ l : List (Key × V), (l.map fun p => kW p.1) = (l.map (·.1)).map kW := fun l => by rw [List.map_map] <;> rfl
    rw [two, two, map_fst]
  · rw [if_neg c, if_neg c]
    exact ⟨_, _, rfl, by rw [hk, List.map_append] <;> rfl, by rw [List.map_append]; exact Reps.append h (Reps.cons r Reps.nil)⟩
def dPutH (dv dob di : DE) : DS := fun τ S => ((dKeep dv τ S).bind fun y τ S => (dob τ S).bind fun x τ S => (di τ S).bind fun i τ S => R.of (match y, x with
  | .val w, .val (.hnd n) => (cellMo S.cells n).bind fun m => (i.rdS S).bind fun wi => (fPut m wi w).map fun m' => (n, m')
  | _, _ => none) τ S).thenS fun p τ S => .nx τ (S.put p.1 p.2)
section
variable {B : Base} {E : XW} {D : DC} {Wx : WX}
/-- what a store does, by values -/
theorem sim_put {K : PySem.W.Frag} {g : G} {m m' : MO} {a : Addr} {wi w : W} {vi v : V} {Z : Hp → Prop} (own : OwnR g m a) (ri : RdW g wi vi) (r : Rep g w v) (nF : ¬ g.F a) (e : fPut m wi w = some m')
    (z : ∀ o, OwnR (g.at_ (upd g.H a o)) m' a → Z (upd g.H a o)) : ∃ H3 H4, Flip g.H a H3 ∧ (DPut H3 a vi v H4 ∨ LPut H3 a vi v H4) ∧ Z H4 := by
  cases m with
  | lst xs =>
    have pick : ∃ k : Int, wi = .int k ∧ (0 ≤ k ∧ k < (xs.length : Int)) ∧ m' = .lst (xs.set k.toNat w) := by
      cases wi with
      | int k =>
        have e : (if 0 ≤ k ∧ k < (xs.length : Int) then some (MO.lst (xs.set k.toNat w)) else none) = some m' := e
        split at e
        · rename_i hk
          cases e
          exact ⟨k, rfl, hk, rfl⟩
        · cases e
      | _ => cases e
    obtain ⟨k, rfl, hk, rfl⟩ := pick
    obtain ⟨vs, q, rs⟩ := id own
    have ri : vi = .int k := ri
    subst ri
    refine ⟨g.H, _, .inl rfl, .inr ⟨vs, k, q, rfl, hk.1, by rw [← rs.length]; exact hk.2, rfl⟩, z _ ?_⟩
    have l := le_own (g := g) own nF (.lst (vs.set k.toNat v))
    exact ⟨_, upd_same, reps_set (Reps.le l _ _ rs) (Rep.le l _ _ r)⟩
  | dic ks xs =>
    have e : (if ks.length < 1000000 then (match keyW wi with
      | some k => (keysW ks).map fun kk => dput ks xs wi w k kk
      | none => none) else none) = some m' := e
    split at e
    · rename_i hz
      split at e
      · rename_i k hk
        obtain ⟨kk, e1, e2⟩ := Option.map_eq_some_iff.mp e
        have ey := keyW_eq hk
        subst ey
        have ev := rd_key ri
        subst ev
        have small : ∀ {kvs : List (Key × V)}, ks = kvs.map (fun p => kW p.1) → kvs.length < sizeLine := fun {kvs} h => by
          rw [h, List.length_map] at hz
          exact Nat.lt_of_lt_of_le hz (by rw [sizeLine_eq]; decide)
        have fin : ∀ {kvs : List (Key × V)}, ks = kvs.map (fun p => kW p.1) → Reps g xs (kvs.map (·.2)) → OwnR (g.at_ (upd g.H a (.dK (putK kvs k v)))) m' a := fun {kvs} hks rs => by
          have : kk = kvs.map (·.1) := by
            have q := keysW_map (kvs.map (·.1))
            rw [List.map_map] at q
            rw [hks] at e1
            exact Option.some.inj (e1.symm.trans q)
          subst this
          have l := le_own (g := g) (m := .dic ks xs) own nF (.dK (putK kvs k v))
          obtain ⟨ks', xs', d1, d2, d3⟩ := dput_ok (g := g.at_ (upd g.H a (.dK (putK kvs k v)))) (k := k) (Rep.le l _ _ r) hks (Reps.le l _ _ rs)
          rw [← e2, d1]
          exact .inl ⟨_, upd_same, d2, d3⟩
        rcases id own with ⟨kvs, q, hks, rs⟩ | ⟨kvs, q, hks, rs⟩
        · exact ⟨g.H, _, .inl rfl, .inl (.inl ⟨kvs, k, q, rfl, small hks, rfl⟩), z _ (fin hks rs)⟩
        · have nil : kvs = [] := by
            rw [hks, show (kvs.map fun p => W.tup (p.1.map kW)) = (kvs.map (·.1)).map fun p => W.tup (p.map kW) by rw [List.map_map] <;> rfl] at e1
            exact List.map_eq_nil_iff.mp (keysW_nil e1)
          subst nil
          refine ⟨upd g.H a (.dK []), upd g.H a (.dK (putK [] k v)), .inr (.inr ⟨q, rfl⟩), .inl (.inl ⟨[], k, upd_same, rfl, small (kvs := []) hks, by rw [upd_upd]⟩), z _ (fin (kvs := []) hks rs)⟩
      · cases e
    · cases e
theorem vs_putH {o i value : Expr} {pos' pos : Pos} {dob di dv : DE} (hv : VE D Wx value dv) (ho : VE D Wx o dob) (hi : VE D Wx i di) : VS D Wx (.Assign [.Subscript o i pos'] value pos) (dPutH dv dob di) := by
  obtain ⟨tv, pv, sv⟩ := ve_keep hv
  obtain ⟨to, po, so⟩ := ho
  obtain ⟨ti, pi, si⟩ := hi
  refine ⟨sPutX to ti tv, fun X c => ps_putX (by have := c.un; omega) (po X c) (pi X c) (pv X c) (by unfold swapsWith; cases value <;> rfl), fun B E hK iw F ρ τ σ S H C Dn h k => ?_⟩
  have k := k.thenS
  refine sv B E hK iw F ρ [] [] τ σ S H C _ rfl h (k.bind.mono fun y τ1 S1 k v H1 F1 ρ1 C1 h1 => ?_)
  refine so B E hK iw F1 ρ1 [y] [some v] τ1 σ S1 H1 C1 _ rfl h1 (k.bind.mono fun x τ2 S2 k vx H2 F2 ρ2 C2 h2 => ?_)
  refine si B E hK iw F2 ρ2 [x, y] [some vx, some v] τ2 σ S2 H2 C2 _ rfl h2 (k.bind.mono fun i τ3 S3 k vi H3 F3 ρ3 C3 h3 => ?_)
  obtain ⟨⟨n, m'⟩, e, kk⟩ := k.of
  have pick : ∃ w n', y = .val w ∧ x = .val (.hnd n') := by
    split at e
    · exact ⟨_, _, rfl, rfl⟩
    · cases e
  obtain ⟨w, n', rfl, rfl⟩ := pick
  · obtain ⟨m, e1, e⟩ := Option.bind_eq_some_iff.mp e
    obtain ⟨wi, e2, e⟩ := Option.bind_eq_some_iff.mp e
    obtain ⟨m2, e3, e4⟩ := Option.map_eq_some_iff.mp e
    cases e4
    have k := kk
    obtain ⟨vi', ev, ri⟩ := (StR.top h3).rdS h3.cel e2
    cases ev
    have h4 := StR.pop h3
    obtain ⟨vx', ev, rx⟩ := StR.top h4
    cases ev
    have rx : vx = .ref (ρ3 n) := rep_hnd rx
    have h5 := StR.pop h4
    obtain ⟨v', ev, rv⟩ := StR.top h5
    cases ev
    have h6 : StR B F3 ρ3 τ3 σ S3 H3 C3 := StR.pop h5
    have lk := h6.cel.look e1
    obtain ⟨H5, H4, q0, q1, q2⟩ := sim_put (K := B.K) (g := gOf B F3 ρ3 S3 H3) (Z := fun H' => Dn.nx σ H') lk.1 ri rv (h6.cF _ lk.2) e3 fun o r => k σ _ F3 ρ3 C3 (h6.cell e1 r)
    exact ⟨ρ3 n, H5, H4, rx, q0, q1, q2⟩
end
end VM

set_option Elab.async false
set_option linter.all false
set_option maxRecDepth 100000
/-! VM40: classes: things that are values, attributes, methods. -/
namespace VM
open PySem PySem.Spec L2
open PyProof.Rows hiding St
section
variable {B : Base} {F : Addr → Prop} {ρ : Nat → Addr} {gs : List Sl} {gv : List (Option V)} {S : Store} {H : Hp} {C : List Addr}
/-- a thing that is whole is frozen -/
theorem StR.seal {Cl : Str} {ks : List Str} {xs : List W} {vs : List V} {x dx : Addr} (h : StR B F ρ gs gv S H C) (hx : H x = some (.ins (He.ga B.K Cl) dx (ks.zip vs))) (hl : ks.length = vs.length) (r : Reps (gOf B F ρ S H) xs vs) (nC : x ∉ C) (hB : x ∈ B.A0 ∨ B.H0 x = none)
    (nO : ∀ (i : Nat) m, gs[i]? = some (.own m) → gv[i]? ≠ some (some (.ref x))) : StR B (fun b => F b ∨ b = x) ρ (.val (.obj Cl ks xs) :: gs) (some (.ref x) :: gv) S H C := by
  have le : (gOf B F ρ S H).le (gOf B (fun b => F b ∨ b = x) ρ S H) := ⟨rfl, Nat.le_refl _, fun _ _ => rfl, fun _ q => .inl q, fun b o e _ => e⟩
  have h1 : StR B (fun b => F b ∨ b = x) ρ gs gv S H C := by
    refine ⟨h.len, fun i sl v e1 e2 => (h.ent i sl v e1 e2).le le fun a o _ _ q => q, h.uniq, fun i m a e1 e2 q => ?_, h.nC, h.pC, h.cel.le le fun a _ o q => q, h.cnd, fun a ha q => ?_, h.cH, fun a q => ?_, h.keep, fun a q => .inl (h.fF a q), fun a q => ?_, h.cN, h.oN, h.rho, h.nx⟩
    · rcases q with q | q
      · exact h.nF i m a e1 e2 q
      · subst q; exact nO i m e1 e2
    · rcases q with q | q
      · exact h.cF a ha q
      · subst q; exact nC ha
    · rcases q with q | q
      · exact h.fT a q
      · subst q; rw [hx]; simp
    · rcases q with q | q
      · exact h.fN a q
      · subst q; exact .inr hB
  refine h1.push ?_
  unfold Rep
  exact ⟨x, dx, vs, rfl, .inr rfl, hx, hl, Reps.le le _ _ r⟩
end
section
variable {B : Base} {E : XW} {D : DC} {Wx : WX}
/-- C(..), things that are values -/
theorem sim_new {f : CF} {n : Nat} {Cl : Str} {t : TA} {d : DA} (hn : ∀ ws S, f ws S ≠ .no → ws.length = n) (hs : ∀ ws S, f ws S = .no ∨ ∃ ks xs S', f ws S = .ok (.val (.obj Cl ks xs)) S') (s : SimA B E t d) :
    Sim B E (tMake (He.ga B.K Cl) (spI B.K Cl f n) [] (fun _ _ _ => False) t) (dCallF f d) := by
  intro F ρ stk vstk τ σ S H C Q hl h k
  refine s F ρ stk vstk τ σ S H C _ hl h (k.bind.mono fun rs τ1 S1 k vs H1 F1 ρ1 C1 e1 h1 => ?_)
  obtain ⟨ws, ew, k⟩ := k.bind.of
  have rp := vals_all (tops e1 h1) ew
  have h2 := popAll e1 h1
  have ne : f ws S1 ≠ .no := fun z => by rw [z] at k; exact k
  intro x dx hx hdx hne
  have h3 := h2.new (o := .own x) hdx
  have hm : upd H1 dx (.own x) x = none := by rw [upd_ne (Ne.symm hne)]; exact hx
  rw [List.append_nil]
  refine ⟨x, dx, vs, upd H1 dx (.own x), ρ1, F1, S1, ws, C1, rfl, hm, rfl, hn ws S1 ne, Reps.le (le_new hdx) _ _ rp, h3.cel, h3.cnd, h3.cF, h3.cH, h3.fT, ?_⟩
  rcases hs ws S1 with e | ⟨ks, xs, S', e⟩
  · exact (ne e).elim
  · rw [e] at k ⊢
    refine ⟨ks, xs, rfl, fun H' F' ρ' C' vs' q hx' hl' r' nF nC => ⟨rfl, ?_⟩⟩
    have h4 := h3.call q
    have hB : x ∈ B.A0 ∨ B.H0 x = none := (h3.fresh0 hm).symm
    refine k _ H' _ ρ' C' (StR.seal (dx := dx) h4 hx' hl' r' nC hB fun i m g1 g2 => ?_)
    obtain ⟨a, ev, ow⟩ := h2.ent i _ _ g1 g2
    cases ev
    exact ow.tr hx
theorem passes_none {P : Program} {w : World} {X : Cx} : Passes (L2.CX P w) X (fun _ _ _ => False) := fun pins σ H s e s' I h => by
  obtain ⟨_, _, _, _, _, _, _, _, _, _, _, _, h⟩ := h
  exact h.elim
theorem two_le_room {k : Nat} {A : Around} (h : 2 ≤ k) (r : Room k A) : Room (1 + 1) A := r.mono h
theorem ve_new {f : CF} {n : Nat} {x : Str} {p pos : Pos} {e : Expr} {es : List Expr} {d : DA} (o : DOk D) (hc : D.calm = true) (hx : D.mkr x = some (f, n)) (hg : D.sc.names.lookup x = some .globalImplicit)
    (ha : VA D Wx (e :: es) d) (hdb : (x == ("__debug__" : Str)) = false) (hs : ((e :: es).all notStar) = true) : VE D Wx (.Call (.Name x p) (e :: es) [] pos) (dCallF f d) := by
  obtain ⟨t, pa, s⟩ := ha
  rw [List.all_cons, Bool.and_eq_true] at hs
  have hK := o.mkr x f n hx
  obtain ⟨fa, fd, ps, hm, M, hb, Fn⟩ := hK.ex
  refine ⟨tMake (He.ga D.K x) (spI D.K x f n) [] (fun _ _ _ => False) t, fun X c => ?_, fun B E hB i => by rw [← hB]; exact sim_new hK.len hK.shape (s B E hB i)⟩
  have Fn' : FnOk X.prog X.w X.K X.mg X.base (L2.CX X.prog X.w) 1 fa fd ps (spI D.K x f n) := by rw [c.prog, c.w, c.K, c.mg, c.base]; exact Fn
  exact pe_make (dvs := []) (ds := []) (by rw [c.K]; exact M) Fn' (two_le_room hK.lev (c.room hc)) (c.gl hg) (by rw [c.mg]; exact hm) (by rw [c.K]; exact hb) .nil (passes_none) (pa X c) hdb (starEach_cons hs.1) (backTo_none (starEach_none hs.2))
theorem ve_new0 {f : CF} {n : Nat} {x : Str} {p pos : Pos} (o : DOk D) (hc : D.calm = true) (hx : D.mkr x = some (f, n)) (hg : D.sc.names.lookup x = some .globalImplicit) (hdb : (x == ("__debug__" : Str)) = false) : VE D Wx (.Call (.Name x p) [] [] pos) (dCallF f dNil) := by
  have hK := o.mkr x f n hx
  obtain ⟨fa, fd, ps, hm, M, hb, Fn⟩ := hK.ex
  refine ⟨tMake (He.ga D.K x) (spI D.K x f n) [] (fun _ _ _ => False) tNil, fun X c => ?_, fun B E hB i => by
    rw [← hB]
    exact sim_new hK.len hK.shape fun F ρ stk vstk τ σ S H C Q hl h k => k [] H F ρ C rfl h⟩
  have Fn' : FnOk X.prog X.w X.K X.mg X.base (L2.CX X.prog X.w) 1 fa fd ps (spI D.K x f n) := by rw [c.prog, c.w, c.K, c.mg, c.base]; exact Fn
  exact pe_make0 (dvs := []) (ds := []) (by rw [c.K]; exact M) Fn' (two_le_room hK.lev (c.room hc)) (c.gl hg) (by rw [c.mg]; exact hm) (by rw [c.K]; exact hb) .nil (passes_none) hdb
end
end VM

set_option Elab.async false
set_option linter.all false
set_option maxRecDepth 100000
/-! VM41: attributes that are read, methods that are called. -/
namespace VM
open PySem PySem.Spec L2
open PyProof.Rows hiding St
/-- an instance's cell -/
def cellI : List (Nat × Cell) → Nat → Option (Str × List Str × List Sl)
  | [], _ => none
  | (k, .ins C ks xs) :: r, n => if k = n then some (C, ks, xs) else cellI r n
  | (k, .mo _) :: r, n => if k = n then none else cellI r n
  | (k, .fz _) :: r, n => if k = n then none else cellI r n
theorem CellsR.lookI {g : G} {n : Nat} {Cl : Str} {ks : List Str} {xs : List Sl} {cs : List (Nat × Cell)} {C : List Addr} (h : CellsR g cs C) (e : cellI cs n = some (Cl, ks, xs)) :
    g.ρ n ∈ C ∧ ∃ vs dx D, g.H (g.ρ n) = some (.ins (He.ga g.K Cl) dx (ks.zip vs)) ∧ ks.length = vs.length ∧ FldsR g xs vs D := by
  induction h with
  | nil => cases e
  | @mo k m' r C hn o _ ih =>
    have e : (if k = n then none else cellI r n) = some (Cl, ks, xs) := e
    split at e
    · cases e
    · exact ⟨List.mem_cons_of_mem _ (ih e).1, (ih e).2⟩
  | @ins k Cn ks' xs' vs dx r C D hn hh hl hf _ ih =>
    have e : (if k = n then some (Cn, ks', xs') else cellI r n) = some (Cl, ks, xs) := e
    split at e
    · rename_i z
      cases e
      subst z
      exact ⟨List.mem_cons_self, vs, dx, D, hh, hl, hf⟩
    · exact ⟨List.mem_cons_of_mem _ (List.mem_append_right _ (ih e).1), (ih e).2⟩
  | @fz k w' r C hn rp _ ih =>
    have e : (if k = n then none else cellI r n) = some (Cl, ks, xs) := e
    split at e
    · cases e
    · exact ih e
/-- the class of a thing, its attributes' names -/
def Sl.cls (S : Store) : Sl → Option (Str × List Str)
  | .val (.obj C ks _) => some (C, ks)
  | .val (.hnd n) => (cellI S.cells n).map fun p => (p.1, p.2.1)
  | _ => none
/-- an attribute's value -/
def Sl.at (S : Store) (f : Str) : Sl → Option W
  | .val (.obj _ ks xs) => (ks.zip xs).lookup f
  | .val (.hnd n) => match cellI S.cells n with
    | some (_, ks, xs) => (match (ks.zip xs).lookup f with
      | some (.val w) => some w
      | _ => none)
    | none => none
  | _ => none
theorem zip_none {β : Type} {ks : List Str} {f : Str} (h : f ∉ ks) : ∀ (xs : List β), (ks.zip xs).lookup f = none := by
  intro xs
  induction ks generalizing xs with
  | nil => rfl
  | cons k ks ih =>
    cases xs with
    | nil => rfl
    | cons x xs =>
      rw [List.zip_cons_cons, List.lookup_cons]
      have : (f == k) = false := by
        rw [beq_eq_false_iff_ne]
        intro z
        subst z
        exact h List.mem_cons_self
      rw [this]
      exact ih (fun z => h (List.mem_cons_of_mem _ z)) xs
theorem zip_reps {g : G} : ∀ {ks : List Str} {xs : List W} {vs : List V} {f : Str} {w : W}, Reps g xs vs → (ks.zip xs).lookup f = some w → ∃ v, (ks.zip vs).lookup f = some v ∧ Rep g w v
  | [], _, _, _, _, _, e => by cases e
  | _ :: _, [], _, _, _, _, e => by cases e
  | k :: ks, x :: xs, vs, f, w, r, e => by
    cases vs with
    | nil => have := r.length; cases this
    | cons v vs =>
      obtain ⟨r1, r2⟩ := r.uncons
      rw [List.zip_cons_cons, List.lookup_cons] at e
      rw [List.zip_cons_cons, List.lookup_cons]
      cases h : f == k with
      | true => rw [h] at e; cases e; exact ⟨v, rfl, r1⟩
      | false => rw [h] at e; exact zip_reps r2 e
theorem zip_flds {g : G} {xs : List Sl} {vs : List V} {D : List Addr} (r : FldsR g xs vs D) : ∀ {ks : List Str} {f : Str} {w : W}, (ks.zip xs).lookup f = some (.val w) → ∃ v, (ks.zip vs).lookup f = some v ∧ Rep g w v := by
  induction r with
  | nil => intro ks f w e; cases ks <;> cases e
  | @val w' v xs vs D r1 _ ih =>
    intro ks f w e
    cases ks with
    | nil => cases e
    | cons k ks =>
      rw [List.zip_cons_cons, List.lookup_cons] at e
      rw [List.zip_cons_cons, List.lookup_cons]
      cases h : f == k with
      | true => rw [h] at e; cases e; exact ⟨v, rfl, r1⟩
      | false => rw [h] at e; exact ih e
  | @own m a xs vs D r1 _ ih =>
    intro ks f w e
    cases ks with
    | nil => cases e
    | cons k ks =>
      rw [List.zip_cons_cons, List.lookup_cons] at e
      rw [List.zip_cons_cons, List.lookup_cons]
      cases h : f == k with
      | true => rw [h] at e; cases e
      | false => rw [h] at e; exact ih e
section
variable {B : Base} {E : XW} {D : DC} {Wx : WX}
/-- o.f -/
def dFld (ok : Str → Str → Bool) (f : Str) (o : DE) : DE := fun τ S => (o τ S).bind fun x τ S => match x.cls S with
  | some (C, _) => if ok C f then R.of ((x.at S f).map .val) τ S else .no
  | none => .no
/-- what a thing on top is -/
theorem top_ins {F : Addr → Prop} {ρ : Nat → Addr} {gs : List Sl} {gv : List (Option V)} {S : Store} {H : Hp} {C : List Addr} {x : Sl} {v : V} {Cl : Str} {ks : List Str} (h : StR B F ρ (x :: gs) (some v :: gv) S H C) (e : x.cls S = some (Cl, ks)) :
    ∃ a dx vs w, v = .ref a ∧ H a = some (.ins (He.ga B.K Cl) dx (ks.zip vs)) ∧ ks.length = vs.length ∧ x = .val w ∧ Rep (gOf B F ρ S H) w v ∧ ∀ f u, x.at S f = some u → ∃ y, (ks.zip vs).lookup f = some y ∧ Rep (gOf B F ρ S H) u y := by
  unfold Sl.cls at e
  split at e
  · rename_i C0 ks0 xs
    cases e
    obtain ⟨v', ev, r⟩ := StR.top h
    cases ev
    have r0 := r
    unfold Rep at r
    obtain ⟨a, dx, vs, e1, e2, e3, e4, e5⟩ := r
    exact ⟨a, dx, vs, _, e1, e3, e4, rfl, r0, fun f u q => zip_reps e5 q⟩
  · rename_i n
    obtain ⟨p, ep, e2⟩ := Option.map_eq_some_iff.mp e
    obtain ⟨C0, ks0, xs⟩ := p
    cases e2
    obtain ⟨v', ev, r⟩ := StR.top h
    cases ev
    have r0 := r
    have rv := rep_hnd r
    obtain ⟨m, vs, dx, D0, hh, hl, hf⟩ := h.cel.lookI ep
    refine ⟨ρ n, dx, vs, _, rv, hh, hl, rfl, r0, fun f u q => ?_⟩
    have q : (match cellI S.cells n with
      | some (_, ks, xs) => (match (ks.zip xs).lookup f with
        | some (.val w) => some w
        | _ => none)
      | none => none) = some u := q
    rw [ep] at q
    dsimp only at q
    split at q
    · rename_i w hw
      cases q
      exact zip_flds hf hw
    · cases q
  · cases e
theorem sim_fld {ta : TE} {o : DE} {ok : Str → Str → Bool} {f : Str} (hok : ∀ Cl, ok Cl f = true → L2.Cls B.K (He.ga B.K Cl) ∧ L2.NoAttr B.K (He.ga B.K Cl) f) (s : Sim B E ta o) : Sim B E (tFld B.K ta f) (dFld ok f o) := by
  intro F ρ stk vstk τ σ S H C Q hl h k
  refine s F ρ stk vstk τ σ S H C _ hl h (k.bind.mono fun x τ1 S1 k v H1 F1 ρ1 C1 h1 => ?_)
  cases e : x.cls S1 with
  | none => rw [e] at k; exact k.elim
  | some p =>
    obtain ⟨Cl, ks⟩ := p
    rw [e] at k
    dsimp only at k
    split at k
    · rename_i c
      obtain ⟨w, ew, k⟩ := k.of
      obtain ⟨u, eu, rfl⟩ := Option.map_eq_some_iff.mp ew
      obtain ⟨a, dx, vs, w0, rfl, hh, _, _, _, at_⟩ := top_ins h1 e
      obtain ⟨y, ly, ry⟩ := at_ f u eu
      exact ⟨a, He.ga B.K Cl, dx, _, y, rfl, hh, (hok Cl c).1, (hok Cl c).2, ly, k y H1 F1 ρ1 C1 ((StR.pop h1).push ry)⟩
    · exact k.elim
theorem ve_fld {e : Expr} {f : Str} {pos : Pos} {d : DE} (o : DOk D) (h : VE D Wx e d) (hb : plainBase e = true) : VE D Wx (.Attribute e f pos) (dFld D.fld f d) := by
  obtain ⟨t, p, s⟩ := h
  refine ⟨tFld D.K t f, fun X c => by rw [← c.K]; exact pe_fld (p X c) (ab_plain hb), fun B E hK i => ?_⟩
  rw [← hK]
  exact sim_fld (fun Cl c => by have := o.fld Cl f c; rw [hK]; exact ⟨this.cls, this.no⟩) (s B E hK i)
/-- o.m(..), whatever class o is of -/
def dMethO (mt : Str → Option (CF × Nat)) (m : Str) (o : DE) (args : DA) : DE := fun τ S => (o τ S).bind fun x τ S => match x.cls S with
  | some (C, ks) => (match mt C with
    | some p => if ks.contains m then .no else (args τ S).bind fun rs τ S => (R.of (valAll (x :: rs)) τ S).bind fun ws τ S => (match p.1 ws S with
      | .ok r S' => .ok r τ S'
      | .ex Cn S' => .ex Cn τ S'
      | .no => .no)
    | none => .no)
  | none => .no
def tMethO (K : PySem.W.Frag) (mt : Str → Option (CF × Nat)) (m : Str) (E : St → XK) (ta : TE) (t : TA) : TE := fun σ H Q => ta σ H fun x H1 => ∃ Cl p, mt Cl = some p ∧ ∃ a dx fs, x = .ref a ∧ H1 a = some (.ins (He.ga K Cl) dx fs) ∧ fs.lookup m = none ∧
  t σ H1 fun vs H2 => spW K p.1 p.2 (x :: vs) H2 Q (E σ)
theorem sim_methO {mt : Str → Option (CF × Nat)} {m : Str} {ta : TE} {t : TA} {dob : DE} {d : DA} (iw : Imp B E Wx) (hn : ∀ Cl f n, mt Cl = some (f, n) → ∀ ws S, f ws S ≠ .no → ws.length = n) (so : Sim B E ta dob) (s : SimA B E t d) : Sim B E (tMethO B.K mt m (WE Wx) ta t) (dMethO mt m dob d) := by
  intro F ρ stk vstk τ σ S H C Q hl h k
  refine so F ρ stk vstk τ σ S H C _ hl h (k.bind.mono fun x τ1 S1 k v H1 F1 ρ1 C1 h1 => ?_)
  cases e : x.cls S1 with
  | none => rw [e] at k; exact k.elim
  | some p =>
    obtain ⟨Cl, ks⟩ := p
    rw [e] at k
    dsimp only at k
    split at k
    · rename_i p hp
      obtain ⟨f, n⟩ := p
      split at k
      · exact k.elim
      · rename_i hm
        obtain ⟨a, dx, vs0, w0, rfl, hh, _, rfl, rw0, _⟩ := top_ins h1 e
        have hm : m ∉ ks := fun z => hm (by simpa using z)
        refine ⟨Cl, (f, n), hp, a, dx, _, rfl, hh, zip_none hm _, ?_⟩
        refine s F1 ρ1 (.val w0 :: stk) (some (.ref a) :: vstk) τ1 σ S1 H1 C1 _ (by simp [hl]) h1 (k.bind.mono fun rs τ2 S2 k vs H2 F2 ρ2 C2 e2 h2 => ?_)
        obtain ⟨ws, ew, k⟩ := k.bind.of
        have e3 : (Sl.val w0 :: rs).length = (V.ref a :: vs).length := by simp [e2]
        have h3 := popAll e2 h2
        have rp := vals_all (tops e2 h2) (show valAll rs = some (ws.drop 1) from by
          obtain ⟨ws', e4, rfl⟩ := Option.map_eq_some_iff.mp (show (valAll rs).map (w0 :: ·) = some ws from ew)
          exact e4)
        obtain ⟨ws', e4, rfl⟩ := Option.map_eq_some_iff.mp (show (valAll rs).map (w0 :: ·) = some ws from ew)
        obtain ⟨v2, ev, rv2⟩ := StR.top h3
        cases ev
        have rp : Reps (gOf B F2 ρ2 S2 H2) (w0 :: ws') (V.ref a :: vs) := Reps.cons rv2 rp
        have h4 := StR.pop h3
        dsimp only at k
        have ne : f (w0 :: ws') S2 ≠ .no := fun z => by rw [z] at k; exact k
        refine ⟨ρ2, F2, S2, w0 :: ws', C2, hn Cl f n hp _ S2 ne, rp, h4.cel, h4.cnd, h4.cF, h4.cH, h4.fT, ?_⟩
        cases e5 : f (w0 :: ws') S2 with
        | no => exact (ne e5).elim
        | ok r S' =>
          rw [e5] at k
          rw [show (f, n).fst (w0 :: ws') S2 = RF.ok r S' from e5]
          exact fun v H' F' ρ' C' q => k v H' F' ρ' C' (h4.call q : StR B F' ρ' ([r] ++ (stk ++ τ2)) ([some v] ++ (vstk ++ σ)) S' H' C')
        | ex Cn S' =>
          rw [e5] at k
          rw [show (f, n).fst (w0 :: ws') S2 = RF.ex Cn S' from e5]
          exact fun H' F' ρ' C' q => iw Cn τ2 S' F' ρ' C' σ H' (StR.pops stk vstk hl (h4.call q : StR B F' ρ' ([] ++ (stk ++ τ2)) ([] ++ (vstk ++ σ)) S' H' C')) k
    · exact k.elim
/-- the value that a method is looked for in -/
theorem pe_methO {X : Cx} {mt : Str → Option (CF × Nat)} {m : Str} {o e : Expr} {es : List Expr} {ta : TE} {t : TA} {apos pos : Pos} {pl : Sem Bool} (ok : DOk D) (c : CxOk D Wx X) (hc : D.calm = true) (hmt : ∀ Cl p, mt Cl = some p → D.mth Cl m = some p) (he : PE X o ta) (ha : PA X (e :: es) t)
    (hst : starEach (e :: es) X.env = (false, eval e X.env) :: starEach es X.env) (hpl : (backTo pos (starEach es X.env)).any (·.1) = false)
    (ht : eval (.Call (.Attribute o m apos) (e :: es) [] pos) X.env = (do
      let ov ← eval o X.env
      standAt apos.atName
      let (f, first) ← holding [ov] (getMethod ov m pl)
      callWith pos f first (backTo pos (starEach (e :: es) X.env)) (backToKw pos (keywordEach [] X.env)))) :
    PE X (.Call (.Attribute o m apos) (e :: es) [] pos) (tMethO D.K mt m (WE Wx) ta t) := by
  refine ⟨fun pins s σ H Q I h => ?_⟩
  refine PySem.W.methodCall_KW (pl := pl) (thn (he.run pins s σ H _ I h) fun u s1 ⟨x, H1, I1, rx, Cl, p, hp, a, dx, fs, ex, ea, l, q⟩ => ?_) ht
  subst ex
  obtain rfl : u = Value.ref a := rx
  have M := ok.mth Cl m p.1 p.2 (hmt Cl p hp)
  obtain ⟨fa, fd, ps, hm, hb, Fn⟩ := M.ex
  have Fn' : FnOk X.prog X.w X.K X.mg X.base (L2.CX X.prog X.w) D.k fa fd ps (spW D.K p.1 p.2) := by rw [c.prog, c.w, c.K, c.mg, c.base]; exact Fn
  have hm' : L2.Meth X.K (He.ga D.K Cl) m fa := by rw [c.K]; exact hm
  refine getmeth_ok I1 ea (by rw [c.K]; exact M.cls) hm' l ?_
  refine PySem.W.callWith_K (first := [.ref a]) (h₀ := X.base) I.ok.mod.kin hm'.kp (thn (ha.run pos pins s1 σ H1 _ I1 q) fun us s2 ⟨vs, H2, I2, r, q2⟩ => ⟨I2.kIn, ?_⟩) hst hpl
  exact run_fnS (E := WE Wx) (us := .ref a :: us) (vs := .ref a :: vs) Fn' (c.room hc) (by rw [c.K]; exact hb) (passAt c.tk σ) I2 (.cons rfl r) q2
theorem pe_methO0 {X : Cx} {mt : Str → Option (CF × Nat)} {m : Str} {o : Expr} {ta : TE} {apos pos : Pos} {pl : Sem Bool} (ok : DOk D) (c : CxOk D Wx X) (hc : D.calm = true) (hmt : ∀ Cl p, mt Cl = some p → D.mth Cl m = some p) (he : PE X o ta)
    (ht : eval (.Call (.Attribute o m apos) [] [] pos) X.env = (do
      let ov ← eval o X.env
      standAt apos.atName
      let (f, first) ← holding [ov] (getMethod ov m pl)
      callWith pos f first (backTo pos (starEach [] X.env)) (backToKw pos (keywordEach [] X.env)))) :
    PE X (.Call (.Attribute o m apos) [] [] pos) (tMethO D.K mt m (WE Wx) ta tNil) := by
  refine ⟨fun pins s σ H Q I h => ?_⟩
  refine PySem.W.methodCall_KW (pl := pl) (thn (he.run pins s σ H _ I h) fun u s1 ⟨x, H1, I1, rx, Cl, p, hp, a, dx, fs, ex, ea, l, q⟩ => ?_) ht
  subst ex
  obtain rfl : u = Value.ref a := rx
  have M := ok.mth Cl m p.1 p.2 (hmt Cl p hp)
  obtain ⟨fa, fd, ps, hm, hb, Fn⟩ := M.ex
  have Fn' : FnOk X.prog X.w X.K X.mg X.base (L2.CX X.prog X.w) D.k fa fd ps (spW D.K p.1 p.2) := by rw [c.prog, c.w, c.K, c.mg, c.base]; exact Fn
  have hm' : L2.Meth X.K (He.ga D.K Cl) m fa := by rw [c.K]; exact hm
  refine getmeth_ok I1 ea (by rw [c.K]; exact M.cls) hm' l ?_
  exact PySem.W.callWith_K0 (first := [.ref a]) I1.kIn hm'.kp (run_fnS (E := WE Wx) (us := [.ref a]) (vs := [.ref a]) Fn' (c.room hc) (by rw [c.K]; exact hb) (passAt c.tk σ) I1 (.cons rfl .nil) q)
/-- a method's call as the model has it -/
theorem ev_meth {o : Expr} {name : Str} {apos pos : Pos} {args : List Expr} {env : Env} (hbase : attributeBase o name env (eval o env) = eval o env)
    (hfew : ((backTo pos (starEach args env)).all (fun x => !x.1) && (backToKw pos (keywordEach [] env)).all (fun x => x.1.isSome)
      && decide (args.length + ([] : List Keyword).length + (if ([] : List Keyword).isEmpty then 0 else 1) < 30)) = true) (hline : (apos.endLine == pos.line) = true) :
    eval (.Call (.Attribute o name apos) args [] pos) env = (do
      let ov ← eval o env
      standAt apos.atName
      let (f, first) ← holding [ov] (getMethod ov name (do return (← importBound o env).getD true))
      callWith pos f first (backTo pos (starEach args env)) (backToKw pos (keywordEach [] env))) := by
  have hform : methodCallForm (args.length + ([] : List Keyword).length) (backTo pos (starEach args env)) (backToKw pos (keywordEach [] env)) = true := hfew
  have hpos : methodCallPos true o env apos pos = pure pos := by unfold methodCallPos; simp [hline]
  rw [arm_eval_Call, hbase]
  unfold methodCall
  rw [hform]
  simp only [hpos]
  rfl
theorem ve_methO {name : Str} {apos cpos : Pos} {o e : Expr} {es : List Expr} {dob : DE} {d : DA} (ok : DOk D) (hc : D.calm = true) (ho : VE D Wx o dob) (ha : VA D Wx (e :: es) d) (hbase : plainBase o = true) (hs : callC apos cpos (e :: es) = true) :
    VE D Wx (.Call (.Attribute o name apos) (e :: es) [] cpos) (dMethO (fun Cl => D.mth Cl name) name dob d) := by
  obtain ⟨to, po, so⟩ := ho
  obtain ⟨t, pt, s⟩ := ha
  refine ⟨tMethO D.K (fun Cl => D.mth Cl name) name (WE Wx) to t, fun X c => pe_methO ok c hc (fun _ _ h => h) (po X c) (pt X c) (starEach_cons (ns_of hs).1) (backTo_none (starEach_none (ns_of hs).2)) (ev_meth (ab_plain hbase) (few_of hs) (line_of hs)), fun B E hK iw => ?_⟩
  rw [← hK]
  exact sim_methO iw (fun Cl f n h => (ok.mth Cl name f n h).len) (so B E hK iw) (s B E hK iw)
theorem ve_methO0 {name : Str} {apos cpos : Pos} {o : Expr} {dob : DE} (ok : DOk D) (hc : D.calm = true) (ho : VE D Wx o dob) (hbase : plainBase o = true) (hs : callC apos cpos [] = true) :
    VE D Wx (.Call (.Attribute o name apos) [] [] cpos) (dMethO (fun Cl => D.mth Cl name) name dob dNil) := by
  obtain ⟨to, po, so⟩ := ho
  refine ⟨tMethO D.K (fun Cl => D.mth Cl name) name (WE Wx) to tNil, fun X c => pe_methO0 ok c hc (fun _ _ h => h) (po X c) (ev_meth (ab_plain hbase) (few_of hs) (line_of hs)), fun B E hK iw => ?_⟩
  rw [← hK]
  exact sim_methO (t := tNil) iw (fun Cl f n h => (ok.mth Cl name f n h).len) (so B E hK iw) (fun F ρ stk vstk τ σ S H C Q hl h k => k [] H F ρ C rfl h)
end
end VM

set_option Elab.async false
set_option linter.all false
set_option maxRecDepth 100000
/-! VM39: while; the greatest and the least of a list. -/
namespace VM
open PySem PySem.Spec L2
open PyProof.Rows hiding St
def dWh (c : DT) (b : DS) : Nat → DS
  | 0, _, _ => .no
  | n + 1, τ, S => (c τ S).thenS fun k τ S => match k with
    | false => .nx τ S
    | true => (match b τ S with
      | .nx τ S => dWh c b n τ S
      | .ct τ S => dWh c b n τ S
      | .bk τ S => .nx τ S
      | o => o)
/-- so many turns at most -/
def whTurns : Nat := 1000000
def dWhile (c : DT) (b : DS) : DS := dWh c b whTurns
section
variable {B : Base} {E : XW} {D : DC} {Wx : WX}
theorem vs_while {c : Expr} {body : List Stmt} {pos : Pos} {dc : DT} {db : DS} (hc : VT D Wx c dc) (hb : VSs D Wx body db) : VS D Wx (.While c body [] pos) (dWhile dc db) := by
  obtain ⟨tc, pc, sc⟩ := hc
  obtain ⟨tb, pb, sb⟩ := hb
  refine ⟨tWhile tc tb, fun X c => ps_while c.pass (pc X c) (pb X c), fun B E hK iw F ρ τ σ S H C Dn h k => ?_⟩
  refine ⟨fun m σ H => ∃ τ S F ρ C, StR B F ρ τ σ S H C ∧ OP B E Dn (dWh dc db m τ S), ⟨whTurns, τ, S, F, ρ, C, h, k⟩, ?_⟩
  rintro m σ H ⟨τ, S, F, ρ, C, h, k⟩
  cases m with
  | zero => exact k.elim
  | succ m =>
    unfold dWh at k
    refine SimS.tst (sc B E hK iw) h (OP.thenS k) fun b τ1 S1 H1 F1 ρ1 C1 k h1 => ?_
    cases b with
    | false => rw [if_neg Bool.false_ne_true]; exact k σ H1 F1 ρ1 C1 h1
    | true =>
      rw [if_pos rfl]
      refine ⟨fun σ H => ∃ τ S F ρ C, StR B F ρ τ σ S H C ∧ OP B E Dn (dWh dc db m τ S), fun σ' H' n => ⟨m, Nat.lt_succ_self _, n⟩, ?_⟩
      refine sb B E hK iw F1 ρ1 τ1 σ S1 H1 C1 _ h1 ?_
      dsimp only at k
      cases e2 : db τ1 S1 with
      | nx τ2 S2 => rw [e2] at k; exact fun σ2 H2 F2 ρ2 C2 h2 => ⟨τ2, S2, F2, ρ2, C2, h2, k⟩
      | ct τ2 S2 => rw [e2] at k; exact fun σ2 H2 F2 ρ2 C2 h2 => ⟨τ2, S2, F2, ρ2, C2, h2, k⟩
      | bk τ2 S2 => rw [e2] at k; exact k
      | rt r τ2 S2 => rw [e2] at k; exact k
      | ex Cn τ2 S2 => rw [e2] at k; exact k
      | no => rw [e2] at k; exact k
end
/-! the greatest, the least -/
def maxI : Int → List Int → Int
  | m, [] => m
  | m, x :: r => maxI (if x > m then x else m) r
def minI : Int → List Int → Int
  | m, [] => m
  | m, x :: r => minI (if x < m then x else m) r
def fMaxL : W → Option Sl
  | .lst xs => (match W.ints xs with
    | some (n :: ns) => sI (maxI n ns)
    | _ => none)
  | _ => none
def fMinL : W → Option Sl
  | .lst xs => (match W.ints xs with
    | some (n :: ns) => sI (minI n ns)
    | _ => none)
  | _ => none
theorem maxI_mem : ∀ (l : List Int) (m : Int), maxI m l ∈ m :: l ∧ ∀ y ∈ m :: l, y ≤ maxI m l
  | [], m => ⟨List.mem_cons_self, fun y hy => by rw [List.mem_singleton.mp hy]; exact Int.le_refl _⟩
  | x :: r, m => by
    obtain ⟨h1, h2⟩ := maxI_mem r (if x > m then x else m)
    have e : maxI m (x :: r) = maxI (if x > m then x else m) r := rfl
    rw [e]
    refine ⟨?_, fun y hy => ?_⟩
    · rcases List.mem_cons.mp h1 with h | h
      · rw [h]
        by_cases c : x > m
        · rw [if_pos c]; exact List.mem_cons_of_mem _ List.mem_cons_self
        · rw [if_neg c]; exact List.mem_cons_self
      · exact List.mem_cons_of_mem _ (List.mem_cons_of_mem _ h)
    · have top := h2 _ List.mem_cons_self
      rcases List.mem_cons.mp hy with rfl | hy
      · refine Int.le_trans ?_ top
        split <;> omega
      · rcases List.mem_cons.mp hy with rfl | hy
        · refine Int.le_trans ?_ top
          split <;> omega
        · exact h2 y (List.mem_cons_of_mem _ hy)
theorem minI_mem : ∀ (l : List Int) (m : Int), minI m l ∈ m :: l ∧ ∀ y ∈ m :: l, minI m l ≤ y
  | [], m => ⟨List.mem_cons_self, fun y hy => by rw [List.mem_singleton.mp hy]; exact Int.le_refl _⟩
  | x :: r, m => by
    obtain ⟨h1, h2⟩ := minI_mem r (if x < m then x else m)
    have e : minI m (x :: r) = minI (if x < m then x else m) r := rfl
    rw [e]
    refine ⟨?_, fun y hy => ?_⟩
    · rcases List.mem_cons.mp h1 with h | h
      · rw [h]
        by_cases c : x < m
        · rw [if_pos c]; exact List.mem_cons_of_mem _ List.mem_cons_self
        · rw [if_neg c]; exact List.mem_cons_self
      · exact List.mem_cons_of_mem _ (List.mem_cons_of_mem _ h)
    · have top := h2 _ List.mem_cons_self
      rcases List.mem_cons.mp hy with rfl | hy
      · refine Int.le_trans top ?_
        split <;> omega
      · rcases List.mem_cons.mp hy with rfl | hy
        · refine Int.le_trans top ?_
          split <;> omega
        · exact h2 y (List.mem_cons_of_mem _ hy)
theorem sim_maxL {K : PySem.W.Frag} : SimC K (f1 fMaxL) (rMax K) := simC1 fun g w v res Q hK r e h => by
  subst hK
  cases w with
  | lst xs =>
    have e : (match W.ints xs with
      | some (n :: ns) => sI (maxI n ns)
      | _ => none) = some res := e
    split at e
    · rename_i n ns e2
      cases e
      have ex := ints_some e2
      subst ex
      obtain ⟨a, vs, rfl, q, r⟩ := r
      have ev := reps_ints r
      subst ev
      obtain ⟨m1, m2⟩ := maxI_mem ns n
      refine ⟨a, n :: ns, rfl, q.sq, by simp, fun m hm ha => ?_⟩
      have em : m = maxI n ns := Int.le_antisymm (m2 m hm) (ha _ m1)
      rw [em]
      exact h.val (repInt _)
    · cases e
  | _ => cases e
theorem sim_minL {K : PySem.W.Frag} : SimC K (f1 fMinL) (rMin K) := simC1 fun g w v res Q hK r e h => by
  subst hK
  cases w with
  | lst xs =>
    have e : (match W.ints xs with
      | some (n :: ns) => sI (minI n ns)
      | _ => none) = some res := e
    split at e
    · rename_i n ns e2
      cases e
      have ex := ints_some e2
      subst ex
      obtain ⟨a, vs, rfl, q, r⟩ := r
      have ev := reps_ints r
      subst ev
      obtain ⟨m1, m2⟩ := minI_mem ns n
      refine ⟨a, n :: ns, rfl, q.sq, by simp, fun m hm ha => ?_⟩
      have em : m = minI n ns := Int.le_antisymm (ha _ m1) (m2 m hm)
      rw [em]
      exact h.val (repInt _)
    · cases e
  | _ => cases e
end VM

set_option Elab.async false
set_option linter.all false
set_option maxRecDepth 100000
/-! VM44: displays whose fresh parts become cells; == through handles. -/
namespace VM
open PySem PySem.Spec L2
open PyProof.Rows hiding St
/-- what is fresh becomes a cell, what is a value stays -/
def dBx (a : DE) : DE := fun τ S => (a τ S).bind fun x τ S => match x with
  | .own m => if (τ.any Sl.isPk) = false then .ok (.val (.hnd S.next)) τ (S.box m) else .no
  | .val w => .ok (.val w) τ S
  | _ => .no
section
variable {B : Base} {E : XW} {D : DC} {Wx : WX}
/-- .. where nothing on the stack is read where it stands -/
def SimAN (B : Base) (E : XW) (t0 : TA) (d : DA) : Prop := ∀ F ρ stk vstk τ σ S H C (Q : List V → Hp → Prop), stk.length = vstk.length → (stk.any Sl.isPk) = false → StR B F ρ (stk ++ τ) (vstk ++ σ) S H C →
  RP (d τ S) (PostA B stk vstk σ Q) E → t0 σ H Q
def VAN (D : DC) (Wx : WX) (es : List Expr) (d : DA) : Prop := ∃ t0, (∀ X, CxOk D Wx X → PA X es t0) ∧ ∀ B E, B.K = D.K → Imp B E Wx → SimAN B E t0 d
theorem simAN_cons {te : TE} {ta : TA} {d : DE} {r : DA} (se : Sim B E te d) (sa : SimAN B E ta r) : ∀ F ρ stk vstk τ σ S H C (Q : List V → Hp → Prop), stk.length = vstk.length → (stk.any Sl.isPk) = false → StR B F ρ (stk ++ τ) (vstk ++ σ) S H C →
    RP (dCons (dBx d) r τ S) (PostA B stk vstk σ Q) E → te σ H fun v H1 => ta σ H1 fun vs H2 => Q (v :: vs) H2 := by
  intro F ρ stk vstk τ σ S H C Q hl hp h k
  refine se F ρ stk vstk τ σ S H C _ hl h (k.bind.bind.mono fun x τ1 S1 k v H1 F1 ρ1 C1 h1 => ?_)
  have go : ∀ (x : Sl) (S1 : Store) (ρ1 : Nat → Addr) (C1 : List Addr), x.isPk = false → StR B F1 ρ1 (x :: (stk ++ τ1)) (some v :: (vstk ++ σ)) S1 H1 C1 → RP ((r τ1 S1).bind fun xs τ S => R.ok (x :: xs) τ S) (PostA B stk vstk σ Q) E →
      ta σ H1 fun vs H2 => Q (v :: vs) H2 := fun x S1 ρ1 C1 px h1 k => by
    refine sa F1 ρ1 (x :: stk) (some v :: vstk) τ1 σ S1 H1 C1 _ (by simp [hl]) (by rw [List.any_cons, px, hp] <;> rfl) h1 (k.bind.mono fun xs τ2 S2 k vs H2 F2 ρ2 C2 e2 h2 => ?_)
    refine k (v :: vs) H2 F2 ρ2 C2 (by simp [e2]) ?_
    rw [List.reverse_cons, List.reverse_cons, List.map_append, List.append_assoc, List.append_assoc]
    exact h2
  cases x with
  | no => exact k.elim
  | pk w => exact k.elim
  | val w => exact go _ _ _ _ rfl h1 k
  | own m =>
    have k : RP (if (τ1.any Sl.isPk) = false then R.ok (Sl.val (W.hnd S1.next)) τ1 (S1.box m) else R.no) _ _ := k
    split at k
    · rename_i hpk
      obtain ⟨a, ev, _⟩ := h1.ent 0 _ _ rfl rfl
      cases ev
      exact go _ _ _ _ rfl (h1.boxed (no_pk (by rw [List.any_append, hp, hpk] <;> rfl))) k
    · exact k.elim
theorem ve0_bx {e : Expr} {d : DE} (h : VE D Wx e d) : VE0 D Wx e (dBx d) := by
  obtain ⟨te, pe, se⟩ := h
  refine ⟨te, pe, fun B E hK iw F ρ τ σ S H C Q h k => se B E hK iw F ρ [] [] τ σ S H C Q rfl h (k.bind.mono fun x τ1 S1 k v H1 F1 ρ1 C1 h1 => ?_)⟩
  cases x with
  | no => exact k.elim
  | pk w => exact k.elim
  | val w => exact k v H1 F1 ρ1 C1 h1
  | own m =>
    have k : RP (if (τ1.any Sl.isPk) = false then R.ok (Sl.val (W.hnd S1.next)) τ1 (S1.box m) else R.no) _ _ := k
    split at k
    · rename_i hpk
      have h1 : StR B F1 ρ1 (.own m :: τ1) (some v :: σ) S1 H1 C1 := h1
      obtain ⟨a, ev, _⟩ := h1.ent 0 _ _ rfl rfl
      cases ev
      exact k _ H1 F1 _ _ (h1.boxed (no_pk hpk))
    · exact k.elim
theorem van_nil : VAN D Wx [] dNil := by
  refine ⟨_, fun X c => pa_nil, fun B E hK i F ρ stk vstk τ σ S H C Q hl hp h k => ?_⟩
  exact k [] H F ρ C rfl h
theorem van_cons {e : Expr} {es : List Expr} {d : DE} {r : DA} (hs : notStar e = true) (h1 : VE D Wx e d) (h2 : VAN D Wx es r) : VAN D Wx (e :: es) (dCons (dBx d) r) := by
  obtain ⟨te, pe, se⟩ := h1
  obtain ⟨ta, pa, sa⟩ := h2
  exact ⟨_, fun X c => pa_cons (pe X c) (pa X c) (starEach_cons hs), fun B E hK i => simAN_cons (se B E hK i) (sa B E hK i)⟩
theorem ve0_tupB {es : List Expr} {k : Nat} {pos : Pos} {d : DA} (h : VAN D Wx es d) : VE0 D Wx (.Tuple es k pos) (dTup d) := by
  obtain ⟨t, p, s⟩ := h
  refine ⟨_, fun X c => pe_tup (p X c), fun B E hK i F ρ τ σ S H C Q h k => ?_⟩
  refine s B E hK i F ρ [] [] τ σ S H C _ rfl rfl h (k.bind.mono fun rs τ1 S1 k vs H1 F1 ρ1 C1 e1 h1 => ?_)
  obtain ⟨r, e, k⟩ := k.of
  obtain ⟨ws, hw, hz, rfl⟩ := disp_some (f := fun ws => .val (.tup ws)) e
  have rp := vals_all (tops e1 h1) hw
  refine ⟨by rw [← rp.length]; exact Nat.le_trans hz seqLine_le, fun p hp => ?_⟩
  have e2 : Ext H1 (upd H1 p (.tup vs)) := Ext.new hp
  refine k _ _ F1 ρ1 C1 ((popAll e1 h1).result e2 (res := .val (.tup ws)) ?_)
  exact repTup (.inl (.inl upd_same)) (Reps.le (G.le_ext (g := gOf B F1 ρ1 S1 H1) e2) _ _ rp)
theorem ve0_lstB {es : List Expr} {pos : Pos} {d : DA} (h : VAN D Wx es d) : VE0 D Wx (.List es pos) (dLst d) := by
  obtain ⟨t, p, s⟩ := h
  refine ⟨_, fun X c => pe_lst (p X c), fun B E hK i F ρ τ σ S H C Q h k => ?_⟩
  refine s B E hK i F ρ [] [] τ σ S H C _ rfl rfl h (k.bind.mono fun rs τ1 S1 k vs H1 F1 ρ1 C1 e1 h1 => ?_)
  obtain ⟨r, e, k⟩ := k.of
  obtain ⟨ws, hw, hz, rfl⟩ := disp_some (f := fun ws => .own (.lst ws)) e
  have rp := vals_all (tops e1 h1) hw
  refine ⟨by rw [← rp.length]; exact Nat.le_trans hz seqLine_le, fun p hp => ?_⟩
  have e2 : Ext H1 (upd H1 p (.lst vs)) := Ext.new hp
  refine k _ _ F1 ρ1 C1 ((popAll e1 h1).result e2 (res := .own (.lst ws)) ?_)
  exact ⟨p, rfl, hp, vs, upd_same, Reps.le (G.le_ext (g := gOf B F1 ρ1 S1 H1) e2) _ _ rp⟩
end
/-! ### == through handles -/
mutual
/-- handles in tuples and lists: what their cells hold -/
def W.deep (S : Store) : W → W
  | .tup xs => .tup (W.deeps S xs)
  | .lst xs => .lst (W.deeps S xs)
  | .hnd n => (match cellW S.cells n with
    | some w => w
    | none => .hnd n)
  | w => w
def W.deeps (S : Store) : List W → List W
  | [] => []
  | w :: r => W.deep S w :: W.deeps S r
end
section
variable {g : G} {S : Store} {C : List Addr} (hc : CellsR g S.cells C)
include hc
mutual
theorem Rep.deepD : ∀ (w : W) (v : V) (d : PyData), (w.deep S).toD = some d → Rep g w v → Dp g.K g.H v d ∧ d.canLay0 = true
  | .tup xs, v, d, e, h => by
    unfold Rep at h
    obtain ⟨a, vs, ev, q, r⟩ := h
    subst ev
    unfold W.deep at e
    obtain ⟨ds, e2, rfl⟩ := Option.map_eq_some_iff.mp (show (W.toDs (W.deeps S xs)).map PyData.tuple = some d by unfold W.toD at e; exact e)
    obtain ⟨h1, h2⟩ := Reps.deepD xs vs ds e2 r
    exact ⟨.tup q h1, h2⟩
  | .lst xs, v, d, e, h => by
    unfold Rep at h
    obtain ⟨a, vs, ev, q, r⟩ := h
    subst ev
    unfold W.deep at e
    obtain ⟨ds, e2, rfl⟩ := Option.map_eq_some_iff.mp (show (W.toDs (W.deeps S xs)).map PyData.list = some d by unfold W.toD at e; exact e)
    obtain ⟨h1, h2⟩ := Reps.deepD xs vs ds e2 r
    exact ⟨.lst q.sq.sq h1, h2⟩
  | .hnd n, v, d, e, h => by
    unfold W.deep at e
    cases ec : cellW S.cells n with
    | none => rw [ec] at e; unfold W.toD at e; cases e
    | some w' =>
      rw [ec] at e
      have e : w'.toD = some d := e
      rw [rep_hnd h]
      have r := hc.lookW ec
      exact ⟨r.dp e, r.lay e⟩
  | .non, v, d, e, h => ⟨Rep.dp _ _ _ e h, Rep.lay _ _ _ e h⟩
  | .bl _, v, d, e, h => ⟨Rep.dp _ _ _ e h, Rep.lay _ _ _ e h⟩
  | .int _, v, d, e, h => ⟨Rep.dp _ _ _ e h, Rep.lay _ _ _ e h⟩
  | .str _, v, d, e, h => ⟨Rep.dp _ _ _ e h, Rep.lay _ _ _ e h⟩
  | .dic _ _, v, d, e, h => ⟨Rep.dp _ _ _ e h, Rep.lay _ _ _ e h⟩
  | .obj _ _ _, v, d, e, h => ⟨Rep.dp _ _ _ e h, Rep.lay _ _ _ e h⟩
  | .exc _, v, d, e, h => ⟨Rep.dp _ _ _ e h, Rep.lay _ _ _ e h⟩
theorem Reps.deepD : ∀ (ws : List W) (vs : List V) (ds : List PyData), W.toDs (W.deeps S ws) = some ds → Reps g ws vs → DpAll g.K g.H vs ds ∧ PyData.canLayAll0 ds = true
  | [], vs, ds, e, h => by unfold Reps at h; unfold W.deeps W.toDs at e; cases e; subst h; exact ⟨.nil, rfl⟩
  | w :: ws, vs, ds, e, h => by
    unfold Reps at h
    obtain ⟨v, s, ev, a, b⟩ := h
    subst ev
    unfold W.deeps W.toDs at e
    cases e1 : W.toD (W.deep S w) with
    | none => rw [e1] at e; cases e
    | some d =>
      rw [e1] at e
      cases e2 : W.toDs (W.deeps S ws) with
      | none => rw [e2] at e; cases e
      | some es =>
        rw [e2] at e
        cases e
        obtain ⟨p1, p2⟩ := Rep.deepD w v d e1 a
        obtain ⟨q1, q2⟩ := Reps.deepD ws s es e2 b
        exact ⟨.cons p1 q1, by show (d.canLay0 && PyData.canLayAll0 es) = true; rw [p2, q2] <;> rfl⟩
end
theorem RdW.deepD {w : W} {v : V} {d : PyData} (e : (w.deep S).toD = some d) (h : RdW g w v) : Dp g.K g.H v d ∧ d.canLay0 = true := by
  cases w with
  | lst xs =>
    obtain ⟨a, vs, ev, q, r⟩ := h
    subst ev
    unfold W.deep at e
    obtain ⟨ds, e2, rfl⟩ := Option.map_eq_some_iff.mp (show (W.toDs (W.deeps S xs)).map PyData.list = some d by unfold W.toD at e; exact e)
    obtain ⟨h1, h2⟩ := Reps.deepD hc xs vs ds e2 r
    exact ⟨.lst q.sq h1, h2⟩
  | dic ks xs => unfold W.deep W.toD at e; cases e
  | _ => exact Rep.deepD hc _ _ _ e h
end
def opCmpH (op : CmpOp) (S : Store) (x y : W) : Option Bool := match op with
  | .Eq => (x.deep S).eqv (y.deep S)
  | .NotEq => ((x.deep S).eqv (y.deep S)).map (!·)
  | op => opCmp op x y
def dOpS {α : Type} (f : Store → W → W → Option α) (a b : DE) : Tau → Store → R α := fun τ S => (a τ S).bind fun x τ S => (b τ S).bind fun y τ S => R.of (match x.rdS S, y.rdS S with
  | some x, some y => f S x y
  | _, _ => none) τ S
def dCmpH (op : CmpOp) (a b : DE) : DE := dOpS (fun S x y => (opCmpH op S x y).map fun k => .val (.bl k)) a b
def dCmpHT (op : CmpOp) (a b : DE) : DT := dOpS (opCmpH op) a b
section
variable {B : Base} {E : XW} {D : DC} {Wx : WX}
theorem sim_twoS {α : Type} {ta tb : TE} {da db : DE} {f : Store → W → W → Option α} (sa : Sim B E ta da) (sb : Sim B E tb db) {F ρ stk vstk τ σ S H C} (hl : stk.length = vstk.length) (h : StR B F ρ (stk ++ τ) (vstk ++ σ) S H C)
    {P : α → Tau → Store → Prop} (k : RP (dOpS f da db τ S) P E) {R2' : V → V → Hp → Prop}
    (fin : ∀ x y wx wy r vx vy τ' S' F' ρ' H' C', StR B F' ρ' (y :: x :: (stk ++ τ')) (some vy :: some vx :: (vstk ++ σ)) S' H' C' → RdW (gOf B F' ρ' S' H') wx vx → RdW (gOf B F' ρ' S' H') wy vy → f S' wx wy = some r → P r τ' S' → R2' vx vy H') :
    ta σ H fun vx H1 => tb σ H1 fun vy H2 => R2' vx vy H2 := by
  refine sa F ρ stk vstk τ σ S H C _ hl h (k.bind.mono fun x τ1 S1 k vx H1 F1 ρ1 C1 h1 => ?_)
  refine sb F1 ρ1 (x :: stk) (some vx :: vstk) τ1 σ S1 H1 C1 _ (by simp [hl]) h1 (k.bind.mono fun y τ2 S2 k vy H2 F2 ρ2 C2 h2 => ?_)
  obtain ⟨r, e, k⟩ := k.of
  obtain ⟨wx, wy, hx, hy, e⟩ := two_rd e
  obtain ⟨vy', ey, ry⟩ := (StR.top h2).rdS h2.cel hy
  cases ey
  obtain ⟨vx', ex, rx⟩ := (StR.top (StR.pop h2)).rdS h2.cel hx
  cases ex
  exact fin x y wx wy r vx vy τ2 S2 F2 ρ2 H2 C2 h2 rx ry e k
theorem cmpH_rule (K : PySem.W.Frag) (op : CmpOp) : ∃ r, (∀ X : Cx, X.K = K → X.A.units + 65 < cLine → OpR X (compareOp op) r) ∧ ∀ (g : G) (S : Store) (C : List Addr) (x y : W) (vx vy : V) (b : Bool) (Q : VK), g.K = K → CellsR g S.cells C → RdW g x vx → RdW g y vy → opCmpH op S x y = some b → Q (.bl b) g.H → r vx vy g.H Q := by
  have gen : (∀ S x y, opCmpH op S x y = opCmp op x y) → ∃ r, (∀ X : Cx, X.K = K → X.A.units + 65 < cLine → OpR X (compareOp op) r) ∧ ∀ (g : G) (S : Store) (C : List Addr) (x y : W) (vx vy : V) (b : Bool) (Q : VK), g.K = K → CellsR g S.cells C → RdW g x vx → RdW g y vy → opCmpH op S x y = some b → Q (.bl b) g.H → r vx vy g.H Q := fun z => by
    obtain ⟨r, h1, h2⟩ := cmp_rule K op
    exact ⟨r, h1, fun g S C x y vx vy b Q hK _ rx ry e q => h2 g x y vx vy b Q hK rx ry (by rw [← z S]; exact e) q⟩
  cases op with
  | Eq =>
    refine ⟨rEqD K, fun X e hu => by subst e; exact op_eqD (by omega), fun g S C x y vx vy b Q hK hc rx ry e h => ?_⟩
    subst hK
    obtain ⟨d, e', h1, h2, h3, h4, h5⟩ := eqv_some e
    obtain ⟨a1, a2⟩ := RdW.deepD hc h1 rx
    obtain ⟨b1, b2⟩ := RdW.deepD hc h2 ry
    exact ⟨d, e', a1, b1, shape_of a2 h3, shape_of b2 h4, by rw [h5]; exact h⟩
  | NotEq =>
    refine ⟨rNeD K, fun X e hu => by subst e; exact op_neD (by omega), fun g S C x y vx vy b Q hK hc rx ry e h => ?_⟩
    subst hK
    obtain ⟨c, hq, rfl⟩ := Option.map_eq_some_iff.mp e
    obtain ⟨d, e', h1, h2, h3, h4, h5⟩ := eqv_some hq
    obtain ⟨a1, a2⟩ := RdW.deepD hc h1 rx
    obtain ⟨b1, b2⟩ := RdW.deepD hc h2 ry
    exact ⟨d, e', a1, b1, shape_of a2 h3, shape_of b2 h4, by rw [h5]; exact h⟩
  | _ => exact gen fun _ _ _ => rfl
theorem ve_cmpH {op : CmpOp} {a b : Expr} {pos : Pos} {da db : DE} (ha : VE D Wx a da) (hb : VE D Wx b db) (hm : behindInMarks op b = false) : VE D Wx (.Compare a [op] [b] pos) (dCmpH op da db) := by
  obtain ⟨ta, pa, sa⟩ := ha
  obtain ⟨tb, pb, sb⟩ := hb
  obtain ⟨r, ho, sr⟩ := cmpH_rule D.K op
  refine ⟨_, fun X c => pe_cmpR (ho X c.K c.un) (pa X c) (pb X c) hm, fun B E hK i F ρ stk vstk τ σ S H C Q hl h k => ?_⟩
  exact sim_twoS (sa B E hK i) (sb B E hK i) hl h k fun x y wx wy res vx vy τ' S' F' ρ' H' C' h2 rx ry e k => by
    obtain ⟨b, e2, rfl⟩ := Option.map_eq_some_iff.mp e
    exact sr (gOf B F' ρ' S' H') S' C' wx wy vx vy b Q hK h2.cel rx ry e2 (k _ H' F' ρ' C' ((StR.pop (StR.pop h2)).push (repBl b)))
theorem vt_cmpH {op : CmpOp} {a b : Expr} {pos : Pos} {da db : DE} (ha : VE D Wx a da) (hb : VE D Wx b db) (hm : behindInMarks op b = false) : VT D Wx (.Compare a [op] [b] pos) (dCmpHT op da db) := by
  obtain ⟨ta, pa, sa⟩ := ha
  obtain ⟨tb, pb, sb⟩ := hb
  obtain ⟨r, ho, sr⟩ := cmpH_rule D.K op
  refine ⟨_, fun X c => pt_cmpR (ho X c.K c.un) (pa X c) (pb X c) hm, fun B E hK i F ρ stk vstk τ σ S H C Q hl h k => ?_⟩
  show tOp r ta tb σ H fun x H' => ∃ k, x = .bl k ∧ Q k H'
  exact sim_twoS (sa B E hK i) (sb B E hK i) hl h k fun x y wx wy b vx vy τ' S' F' ρ' H' C' h2 rx ry e k => sr (gOf B F' ρ' S' H') S' C' wx wy vx vy b _ hK h2.cel rx ry e ⟨b, rfl, k H' F' ρ' C' (StR.pop (StR.pop h2))⟩
end
end VM

set_option Elab.async false
set_option linter.all false
set_option maxRecDepth 100000
/-! VM45: pairs and triples of names set at once; a list is cleared. -/
namespace VM
open PySem PySem.Spec L2
open PyProof.Rows hiding St
/-- names that are set at once -/
def parC (D : DC) (ns : List (Str × Pos)) (vs : List Expr) : Bool :=
  ns.all (fun p => D.sc.names.lookup p.1 == some .local && p.2.line == (ns.head?.map (·.2.line)).getD 0) && ((ns.map (·.1)).eraseDups.length == (ns.map (·.1)).length) && vs.all notStar && !vs.all (foldedForSure 8) && !vs.all (constantsAlone 8)
theorem noStar_any {vs : List Expr} (h : vs.all notStar = true) : (vs.any fun | .Starred .. => true | _ => false) = false := by
  rw [List.any_eq_false]
  intro e he
  have := List.all_eq_true.mp h e he
  cases e <;> first | exact Bool.false_ne_true | exact (Bool.false_ne_true this).elim
theorem fm2 {f : Expr → Option Str} {x y : Str} {a b : Expr} (h1 : f a = some x) (h2 : f b = some y) : [a, b].filterMap f = [x, y] := by
  rw [List.filterMap_cons_some h1, List.filterMap_cons_some h2] <;> rfl
theorem fm3 {f : Expr → Option Str} {x y z : Str} {a b c : Expr} (h1 : f a = some x) (h2 : f b = some y) (h3 : f c = some z) : [a, b, c].filterMap f = [x, y, z] := by
  rw [List.filterMap_cons_some h1, List.filterMap_cons_some h2, List.filterMap_cons_some h3] <;> rfl
theorem par2_names {D : DC} {x y : Str} {px py pt pt2 : Pos} {kt k2 : Nat} {a b : Expr} (h : parC D [(x, px), (y, py)] [a, b] = true) {env : Env} (hs : env.scope = D.sc) (hk : env.scope.kind = .function) :
    swappedStores [.Tuple [.Name x px, .Name y py] kt pt] (.Tuple [a, b] k2 pt2) env = pure (some [x, y]) := by
  have hb : env.blockKind = .function := by unfold Env.blockKind; rw [hk]; rfl
  have ky : ∀ y, env.kindOf y = D.sc.names.lookup y := fun y => by unfold Env.kindOf; rw [hs]
  unfold parC at h
  simp only [Bool.and_eq_true, Bool.not_eq_true'] at h
  obtain ⟨⟨⟨⟨h1, h2⟩, h3⟩, h4⟩, h5⟩ := h
  simp only [List.all_cons, List.all_nil, Bool.and_true, Bool.and_eq_true, List.head?_cons, Option.map_some, Option.getD_some] at h1
  obtain ⟨⟨l1, p1⟩, l2, p2⟩ := h1
  have ns := noStar_any h3
  have h2 : [x, y].eraseDups.length = 2 := eq_of_beq h2
  unfold swappedStores
  dsimp only
  rw [hb, h4, h5]
  refine (if_neg (by simp)).trans ?_
  refine (if_neg fun q => Bool.false_ne_true (ns.symm.trans q)).trans ?_
  rw [fm2 (x := x) (y := y) (if_pos (by rw [ky, l1]; exact p1)) (if_pos (by rw [ky, l2]; exact p2)), h2]
  rfl
theorem par3_names {D : DC} {x y z : Str} {px py pz pt pt2 : Pos} {kt k2 : Nat} {a b c : Expr} (h : parC D [(x, px), (y, py), (z, pz)] [a, b, c] = true) {env : Env} (hs : env.scope = D.sc) (hk : env.scope.kind = .function) :
    swappedStores [.Tuple [.Name x px, .Name y py, .Name z pz] kt pt] (.Tuple [a, b, c] k2 pt2) env = pure (some [x, y, z]) := by
  have hb : env.blockKind = .function := by unfold Env.blockKind; rw [hk]; rfl
  have ky : ∀ y, env.kindOf y = D.sc.names.lookup y := fun y => by unfold Env.kindOf; rw [hs]
  unfold parC at h
  simp only [Bool.and_eq_true, Bool.not_eq_true'] at h
  obtain ⟨⟨⟨⟨h1, h2⟩, h3⟩, h4⟩, h5⟩ := h
  simp only [List.all_cons, List.all_nil, Bool.and_true, Bool.and_eq_true, List.head?_cons, Option.map_some, Option.getD_some] at h1
  obtain ⟨⟨l1, p1⟩, ⟨l2, p2⟩, l3, p3⟩ := h1
  have ns := noStar_any h3
  have h2 : [x, y, z].eraseDups.length = 3 := eq_of_beq h2
  unfold swappedStores
  dsimp only
  rw [hb, h4, h5]
  refine (if_neg (by simp)).trans ?_
  refine (if_neg fun q => Bool.false_ne_true (ns.symm.trans q)).trans ?_
  rw [fm3 (x := x) (y := y) (z := z) (if_pos (by rw [ky, l1]; exact p1)) (if_pos (by rw [ky, l2]; exact p2)) (if_pos (by rw [ky, l3]; exact p3)), h2]
  rfl
/-- names that are not all of the def's own: no storing at once -/
def ssF (D : DC) (line : Nat) : Expr → Option Str
  | .Name x p => if D.sc.names.lookup x == some .local && p.line == line then some x else none
  | _ => none
def ssC (D : DC) (ts : List Expr) : Bool := !(ts.length == 2 || ts.length == 3) || ((ts.filterMap (ssF D ((ts.head?.map (·.pos.line)).getD 0))).length != ts.length)
def ssT (D : DC) : Expr → Expr → Bool
  | .Tuple ts _ _, .Tuple _ _ _ => ssC D ts
  | _, _ => false
theorem ss_noneC {D : DC} {ts vs : List Expr} {pt pt2 : Pos} {kt k2 : Nat} (h : ssC D ts = true) {env : Env} (hs : env.scope = D.sc) :
    swappedStores [.Tuple ts kt pt] (.Tuple vs k2 pt2) env = pure none := by
  have ky : ∀ y, env.kindOf y = D.sc.names.lookup y := fun y => by unfold Env.kindOf; rw [hs]
  unfold swappedStores
  dsimp only
  split
  · rfl
  · rename_i c1
    split
    · rfl
    · have fe : (fun (x : Expr) => (match x with
          | .Name id pos => if env.kindOf id == some .local && pos.line == (ts.head?.map (·.pos.line)).getD 0 then some id else none
          | _ => none : Option Str)) = ssF D ((ts.head?.map (·.pos.line)).getD 0) := by
        funext x
        cases x <;> first | rfl | (show (if _ then _ else _) = (if _ then _ else _); rw [ky])
      unfold ssC at h
      rw [← fe] at h
      refine if_pos ?_
      rw [Bool.or_eq_true] at h ⊢
      rcases h with h | h
      · exfalso
        exact c1 (by rw [h] <;> rfl)
      · exact .inl h
theorem ss_noneT {D : DC} {tg e : Expr} (h : ssT D tg e = true) {env : Env} (hs : env.scope = D.sc) : swappedStores [tg] e env = pure none := by
  unfold ssT at h
  split at h
  · exact ss_noneC h hs
  · cases h
section
variable {B : Base} {E : XW} {D : DC} {Wx : WX}
theorem vs_asgC {tg e : Expr} {d : DE} {g : DG} {pos : Pos} (he : VE0 D Wx e d) (hg : VG D Wx tg g) (hs : ∀ env : Env, env.scope = D.sc → env.scope.kind = .function → swapsWithSole [tg] e pos.line env = pure false) (hw : ∀ env, env.scope = D.sc → swappedStores [tg] e env = pure none)
    (h1 : ∀ env, (assignEach [tg] env).map (·.2) = [assign tg env]) : VS D Wx (.Assign [tg] e pos) (dAsg d g) := by
  obtain ⟨t, p, s⟩ := he
  obtain ⟨u, q, s2⟩ := hg
  refine ⟨_, fun X c => ps_asg (p X c) (q X c) (hs _ c.sc c.kind) (hw _ c.sc) (h1 _), fun B E hK i F ρ τ σ S H C D h k => ?_⟩
  exact SimS.ex (s B E hK i) h k.thenS fun r τ' S' v H' F' ρ' C' p h' => s2 B E hK i F' ρ' r v τ' σ S' H' C' D h' p
def Sl.fine : Sl → Bool
  | .val _ => true
  | .own _ => true
  | _ => false
def dPar2 (i j : Nat) (a : DA) : DS := fun τ S => (a τ S).thenS fun rs τ S => match rs with
  | [x, y] => if x.fine && y.fine then .nx ((τ.set j y).set i x) S else .no
  | _ => .no
def dPar3 (i j l : Nat) (a : DA) : DS := fun τ S => (a τ S).thenS fun rs τ S => match rs with
  | [x, y, z] => if x.fine && y.fine && z.fine then .nx (((τ.set l z).set j y).set i x) S else .no
  | _ => .no
theorem vs_par2 {i j : Nat} {x y : Str} {a b : Expr} {d : DA} {px py pt pt2 pos : Pos} {kt k2 : Nat} (o : DOk D) (hc : D.calm = true) (hi : D.N[i]? = some x) (hj : D.N[j]? = some y) (hij : i ≠ j) (h : parC D [(x, px), (y, py)] [a, b] = true) (ha : VA D Wx [a, b] d) :
    VS D Wx (.Assign [.Tuple [.Name x px, .Name y py] kt pt] (.Tuple [a, b] k2 pt2) pos) (dPar2 i j d) := by
  obtain ⟨t, p, s⟩ := ha
  have h' := h
  unfold parC at h'
  simp only [Bool.and_eq_true, Bool.not_eq_true', List.all_cons, List.all_nil, Bool.and_true] at h'
  obtain ⟨⟨⟨⟨⟨⟨l1, _⟩, l2, _⟩, _⟩, _⟩, _⟩, _⟩ := h'
  refine ⟨tPar i j t, fun X c => ps_par (c.hot hc) (by rw [c.N]; exact o.nd) (by rw [c.N]; exact hi) (by rw [c.N]; exact hj) hij (by rw [c.sc]; exact eq_of_beq l1) (by rw [c.sc]; exact eq_of_beq l2) (p X c) (par2_names h c.sc c.kind), fun B E hK iw F ρ τ σ S H C Dn h k => ?_⟩
  refine s B E hK iw F ρ [] [] τ σ S H C _ rfl h (k.thenS.mono fun rs τ1 S1 k vs H1 F1 ρ1 C1 e1 h1 => ?_)
  match rs, vs, e1, k, h1 with
  | [], _, _, k, _ => exact k.elim
  | [_], _, _, k, _ => exact k.elim
  | _ :: _ :: _ :: _, _, _, k, _ => exact k.elim
  | [x, y], [u, v], _, k, h1 =>
    have k : OP B E Dn (if x.fine && y.fine then _ else _) := k
    split at k
    · refine ⟨u, v, rfl, ?_⟩
      rw [List.set_comm _ _ hij]
      exact k _ H1 F1 ρ1 C1 (StR.assign i (StR.assign (j + 1) h1))
    · exact k.elim
theorem vs_par3 {i j l : Nat} {x y z : Str} {a b c : Expr} {d : DA} {px py pz pt pt2 pos : Pos} {kt k2 : Nat} (o : DOk D) (hc : D.calm = true) (hi : D.N[i]? = some x) (hj : D.N[j]? = some y) (hl : D.N[l]? = some z) (hij : i ≠ j) (hil : i ≠ l) (hjl : j ≠ l)
    (h : parC D [(x, px), (y, py), (z, pz)] [a, b, c] = true) (ha : VA D Wx [a, b, c] d) :
    VS D Wx (.Assign [.Tuple [.Name x px, .Name y py, .Name z pz] kt pt] (.Tuple [a, b, c] k2 pt2) pos) (dPar3 i j l d) := by
  obtain ⟨t, p, s⟩ := ha
  have h' := h
  unfold parC at h'
  simp only [Bool.and_eq_true, Bool.not_eq_true', List.all_cons, List.all_nil, Bool.and_true] at h'
  obtain ⟨⟨⟨⟨⟨⟨l1, _⟩, ⟨l2, _⟩, l3, _⟩, _⟩, _⟩, _⟩, _⟩ := h'
  refine ⟨tPar3 i j l t, fun X c => ps_par3 (c.hot hc) (by rw [c.N]; exact o.nd) (by rw [c.N]; exact hi) (by rw [c.N]; exact hj) (by rw [c.N]; exact hl) hij hil hjl (by rw [c.sc]; exact eq_of_beq l1) (by rw [c.sc]; exact eq_of_beq l2) (by rw [c.sc]; exact eq_of_beq l3) (p X c) (par3_names h c.sc c.kind), fun B E hK iw F ρ τ σ S H C Dn h k => ?_⟩
  refine s B E hK iw F ρ [] [] τ σ S H C _ rfl h (k.thenS.mono fun rs τ1 S1 k vs H1 F1 ρ1 C1 e1 h1 => ?_)
  match rs, vs, e1, k, h1 with
  | [], _, _, k, _ => exact k.elim
  | [_], _, _, k, _ => exact k.elim
  | [_, _], _, _, k, _ => exact k.elim
  | _ :: _ :: _ :: _ :: _, _, _, k, _ => exact k.elim
  | [x, y, z], [u, v, w], _, k, h1 =>
    have k : OP B E Dn (if x.fine && y.fine && z.fine then _ else _) := k
    split at k
    · refine ⟨u, v, w, rfl, ?_⟩
      rw [List.set_comm _ _ hij, List.set_comm _ _ hil, List.set_comm _ _ hjl]
      exact k _ H1 F1 ρ1 C1 (StR.assign i (StR.assign (j + 1) (StR.assign (l + 2) h1)))
    · exact k.elim
end
/-! a list is cleared -/
def mClr : MF
  | .lst _, [] => some (.non, .lst [])
  | _, _ => none
theorem sim_clear {K : PySem.W.Frag} : SimM K "list" mClr rClear := by
  intro g m a rs vs w m' Q hK own hp e le nF h
  match m, rs, e with
  | .lst xs, [], e =>
    cases hp
    cases e
    obtain ⟨us, q, ru⟩ := own
    exact ⟨a, us, rfl, rfl, q, h _ _ ⟨_, upd_same, Reps.nil⟩ repNon⟩
end VM

set_option Elab.async false
set_option linter.all false
set_option maxRecDepth 100000
/-! VM46: a dict display of constants; d.get(k, x). -/
namespace VM
open PySem PySem.Spec L2
open PyProof.Rows hiding St
/-- texts and constants, pair by pair -/
def dcKeys : List (Option Expr) → Option (List Str)
  | [] => some []
  | some (.Constant (.str x) _ _) :: r => (dcKeys r).map (x :: ·)
  | _ => none
def dcVals : List Expr → Option (List W)
  | [] => some []
  | .Constant c _ _ :: r => match cW c, dcVals r with
    | some w, some ws => some (w :: ws)
    | _, _ => none
  | _ => none
def lookW {K : Type} [DecidableEq K] : List K → List W → K → Option W
  | k :: ks, x :: xs, j => if k = j then some x else lookW ks xs j
  | _, _, _ => none
def W.isLD : W → Bool
  | .lst _ => true
  | .dic _ _ => true
  | _ => false
def pGet2 : PF := fun w vs => match w, vs with
  | .dic (k0 :: ks) xs, [y, d] => if d.isLD = true then none else (match keyW y with
    | some k => (keysW (k0 :: ks)).map fun kk => .val ((lookW kk xs k).getD d)
    | none => none)
  | _, _ => none
def rGet2 : V → List V → Hp → VK → Prop := fun x vs H Q => ∃ a y z o, x = .ref a ∧ vs = [y, z] ∧ DGet H a y o ∧ Q (o.getD z) H
theorem mt_get2 {X : Cx} (hu : X.A.units + 1 < cLine) : MtR X "dict.get" rGet2 := by
  intro pins s σ H x vs v us Q I rx rv h
  obtain ⟨a, y, z, o, rfl, rfl, g, q⟩ := h
  cases rx
  cases rv with
  | cons r1 t1 =>
    cases t1 with
    | cons r2 t2 =>
      cases t2
      exact d_get2 hu I g r1 r2 fun w' s' I' rw' => ⟨_, H, I', rw', q⟩
theorem look_val {K : Type} [DecidableEq K] {g : G} : ∀ {kvs : List (K × V)} {xs : List W} (j : K), Reps g xs (kvs.map (·.2)) →
    match lookW (kvs.map (·.1)) xs j with
    | some w => ∃ v, valV kvs j = some v ∧ Rep g w v
    | none => valV kvs j = none
  | [], xs, j, h => by cases xs <;> exact valV_nil
  | p :: kvs, xs, j, h => by
    cases xs with
    | nil => unfold Reps at h; cases h
    | cons x xs =>
      obtain ⟨a, b⟩ := Reps.uncons (show Reps g (x :: xs) (p.2 :: kvs.map (·.2)) from h)
      show match (if p.1 = j then some x else lookW (kvs.map (·.1)) xs j) with
        | some w => ∃ v, valV (p :: kvs) j = some v ∧ Rep g w v
        | none => valV (p :: kvs) j = none
      by_cases e : p.1 = j
      · rw [if_pos e, valV_pos e]
        exact ⟨_, rfl, a⟩
      · rw [if_neg e, valV_neg e]
        exact look_val j b
theorem rd_rep {g : G} {w : W} {v : V} (h : RdW g w v) (z : w.isLD ≠ true) : Rep g w v := by
  cases w with
  | lst xs => exact (z rfl).elim
  | dic ks xs => exact (z rfl).elim
  | _ => exact h
theorem sim_get2 {K : PySem.W.Frag} : SimP K pGet2 rGet2 := by
  intro g w ws v vs res Q hK rw_ rv e h
  unfold pGet2 at e
  split at e
  · rename_i k0 ks xs y d
    split at e
    · cases e
    · rename_i nd
      cases rv with
      | cons r1 t1 =>
        cases t1 with
        | cons r2 t2 =>
          cases t2
          obtain ⟨a, rfl, q⟩ := rw_
          have rd := rd_rep r2 nd
          split at e
          · rename_i k hk
            obtain ⟨kk, e1, rfl⟩ := Option.map_eq_some_iff.mp e
            have hy := keyW_eq hk
            subst hy
            have ey := rd_key r1
            rcases q with ⟨kvs, h1, h2, h3⟩ | ⟨kvs, h1, h2, h3⟩
            · have e2 := keysW_map (kvs.map (·.1))
              rw [List.map_map] at e2
              rw [h2] at e1
              have e3 : kk = kvs.map (·.1) := Option.some.inj (e1.symm.trans e2)
              subst e3
              have l := look_val (g := g) k h3
              refine ⟨a, _, _, valV kvs k, rfl, rfl, .inl ⟨kvs, k, .inl h1, ey, rfl⟩, ?_⟩
              cases lk : lookW (kvs.map (·.1)) xs k with
              | none =>
                rw [lk] at l h
                rw [l]
                exact h.val rd
              | some w' =>
                rw [lk] at l h
                obtain ⟨v', l1, l2⟩ := l
                rw [l1]
                exact h.val l2
            · exfalso
              rw [h2] at e1
              have n := keysW_nil (ks := kvs.map (·.1)) (kk := kk) (by rw [List.map_map]; exact e1)
              rw [List.map_eq_nil_iff] at n
              subst n
              cases h2
          · cases e
  · cases e
/-! ### the display -/
section
variable {D : DC} {Wx : WX}
def dDicC (ks : List Str) (ws : List W) : DE := fun τ S => .ok (.own (.dic (ks.map .str) ws)) τ S
theorem tPairs_c : ∀ (cs : List (Str × V)) (σ : St) (H : Hp) (Q : List (V × V) → Hp → Prop), Q (cs.map fun c => (V.str c.1, c.2)) H → tPairs (cs.map fun c => (tC (V.str c.1), tC c.2)) σ H Q
  | [], _, _, _, h => h
  | c :: cs, σ, H, Q, h => tPairs_c cs σ H _ h
theorem pps_c : ∀ {keys : List (Option Expr)} {vals : List Expr} {ks : List Str} {ws : List W}, dcKeys keys = some ks → dcVals vals = some ws → keys.length = vals.length →
    ∃ vs : List V, vs.length = ks.length ∧ (∀ g : G, Reps g ws vs) ∧ ∀ (X : Cx) (pos : Pos), PPs X pos keys vals ((ks.zip vs).map fun c => (tC (V.str c.1), tC c.2))
  | [], [], _, _, h1, h2, _ => by cases h1; cases h2; exact ⟨[], rfl, fun g => Reps.nil, fun X pos => pps_nil⟩
  | [], _ :: _, _, _, _, _, h3 => by cases h3
  | _ :: _, [], _, _, _, _, h3 => by cases h3
  | some (.Constant (.str x) k p) :: keys, .Constant c k2 p2 :: vals, ks, ws, h1, h2, h3 => by
    obtain ⟨ks', e1, rfl⟩ := Option.map_eq_some_iff.mp (show (dcKeys keys).map (x :: ·) = some ks from h1)
    have h2 : (match cW c, dcVals vals with
      | some w, some ws => some (w :: ws)
      | _, _ => none) = some ws := h2
    cases ec : cW c with
    | none => rw [ec] at h2; cases h2
    | some w =>
      cases ev : dcVals vals with
      | none => rw [ec, ev] at h2; cases h2
      | some ws' =>
        rw [ec, ev] at h2
        cases h2
        obtain ⟨v, hv, rv⟩ := const_v ec
        obtain ⟨vs, l, r, pp⟩ := pps_c e1 ev (by simpa using h3)
        exact ⟨v :: vs, by simp [l], fun g => Reps.cons (rv g) (r g), fun X pos => pps_cons pe_str (hv X k2 p2) (pp X pos)⟩
theorem merge_new : ∀ (more kvs : List (Key × V)), ((kvs ++ more).map (·.1)).Nodup → mergeK kvs more = kvs ++ more
  | [], kvs, _ => by rw [List.append_nil]; rfl
  | p :: r, kvs, h => by
    have ap : kvs ++ p :: r = (kvs ++ [p]) ++ r := by simp
    rw [ap] at h
    show mergeK (putK kvs p.1 p.2) r = _
    have np : ¬ (kvs.any fun kv => decide (kv.1 = p.1)) = true := by
      intro z
      obtain ⟨q, hq, e⟩ := List.any_eq_true.mp z
      rw [List.map_append, List.map_append, List.append_assoc, List.nodup_append] at h
      exact h.2.2 q.1 (List.mem_map_of_mem hq) p.1 (by simp) (of_decide_eq_true e)
    unfold putK
    rw [if_neg np, merge_new r _ h, ap]
theorem ve_dicC {keys : List (Option Expr)} {vals : List Expr} {ks : List Str} {ws : List W} {pos : Pos} (h1 : dcKeys keys = some ks) (h2 : dcVals vals = some ws) (hl : keys.length = vals.length) (h0 : keys ≠ []) (h15 : keys.length ≤ 15) (nd : ks.Nodup) (hk : keys.length = ks.length) (hall : keys.all (·.isSome) = true) :
    VE D Wx (.Dict keys vals pos) (dDicC ks ws) := by
  obtain ⟨vs, lv, rv, pp⟩ := pps_c h1 h2 hl
  refine ⟨_, fun X c => pe_disp (pp X pos) hall hl h0 h15, fun B E hK iw F ρ stk vstk τ σ S H C Q hl' hh k p hp => ?_⟩
  refine tPairs_c (ks.zip vs) σ _ _ ⟨upd_same, (ks.zip vs).map fun c => (Sum.inr c.1, c.2), by rw [List.map_map] <;> rfl, by rw [List.length_map, List.length_zip]; omega, ?_⟩
  have m1 : ((ks.zip vs).map fun c => ((Sum.inr c.1 : Key), c.2)).map (·.1) = ks.map Sum.inr := by
    rw [List.map_map]
    show (ks.zip vs).map (Sum.inr ∘ Prod.fst) = _
    rw [← List.map_map, List.map_fst_zip (by omega)]
  have m2 : ((ks.zip vs).map fun c => ((Sum.inr c.1 : Key), c.2)).map (·.2) = vs := by
    rw [List.map_map]
    show (ks.zip vs).map Prod.snd = _
    rw [List.map_snd_zip (by omega)]
  have mg : mergeK [] ((ks.zip vs).map fun c => ((Sum.inr c.1 : Key), c.2)) = (ks.zip vs).map fun c => ((Sum.inr c.1 : Key), c.2) := by
    rw [merge_new _ _ (by rw [List.nil_append, m1]; exact List.Pairwise.map _ (fun a b h z => h (Sum.inr.inj z)) nd), List.nil_append]
  rw [mg]
  have ex : Ext H (upd (upd H p (.dK [])) p (.dK ((ks.zip vs).map fun c => ((Sum.inr c.1 : Key), c.2)))) := fun a o e => by
    have n1 : a ≠ p := fun z => by rw [z, hp] at e; cases e
    rw [upd_ne n1, upd_ne n1, e]
  refine k _ _ F ρ C (hh.result ex (res := .own (.dic (ks.map .str) ws)) ⟨p, rfl, hp, .inl ⟨_, upd_same, ?_, by rw [m2]; exact rv _⟩⟩)
  show ks.map W.str = ((ks.zip vs).map fun c => ((Sum.inr c.1 : Key), c.2)).map (fun p => kW p.1)
  have : (fun p : Key × V => kW p.1) = kW ∘ Prod.fst := rfl
  rw [this, ← List.map_map, m1, List.map_map] <;> rfl
end
end VM

set_option Elab.async false
set_option linter.all false
set_option maxRecDepth 100000
/-! VM47: list(range(n)); o[i] = v of an owned list or dict. -/
namespace VM
open PySem PySem.Spec L2
open PyProof.Rows hiding St
def fRngL : Sl → Option Sl
  | .val (.int j) => if -(2 ^ 62) ≤ j ∧ j < 2 ^ 62 ∧ j.toNat ≤ 1000000 then some (.own (.lst (upTo 0 j.toNat))) else none
  | _ => none
def dRngL (d : DE) : DE := fun τ S => (dKeep d τ S).bind fun x τ S => R.of (fRngL x) τ S
section
variable {D : DC} {Wx : WX}
theorem reps_rg {g : G} {n : Nat} : ∀ l : List Nat, Reps g (l.map fun (i : Nat) => W.int (0 + (i : Int))) (l.map fun (i : Nat) => V.int (0 + (i : Int)))
  | [] => Reps.nil
  | i :: l => Reps.cons (repInt _) (reps_rg (n := n) l)
theorem ve_rngL {p p2 pos2 pos : Pos} {e : Expr} {d : DE} (hc : D.calm = true) (hg : D.sc.names.lookup ("list" : Str) = some .globalImplicit) (hm : D.mg "list" = none) (hg2 : D.sc.names.lookup ("range" : Str) = some .globalImplicit) (hm2 : D.mg "range" = none)
    (he : VE D Wx e d) (hs : notStar e = true) : VE D Wx (.Call (.Name "list" p) [.Call (.Name "range" p2) [e] [] pos2] [] pos) (dRngL d) := by
  obtain ⟨te, pe, se⟩ := ve_keep he
  refine ⟨tLstRg (tRg1 te), fun X c => ?_, fun B E hK iw F ρ stk vstk τ σ S H C Q hl hh k => ?_⟩
  · exact pe_listRg (c.hot hc) (c.gl hg) (by rw [c.mg]; exact hm) (prg_1 (c.gl hg2) (by rw [c.mg]; exact hm2) (pe X c) (starEach_cons hs)) (by rfl)
  · refine se B E hK iw F ρ stk vstk τ σ S H C _ hl hh (k.bind.mono fun x τ1 S1 k v H1 F1 ρ1 C1 h1 => ?_)
    obtain ⟨res, e1, k⟩ := k.of
    have pick : ∃ j : Int, x = .val (.int j) ∧ (-(2 ^ 62) ≤ j ∧ j < 2 ^ 62 ∧ j.toNat ≤ 1000000) ∧ res = .own (.lst (upTo 0 j.toNat)) := by
      unfold fRngL at e1
      split at e1
      · rename_i j
        split at e1
        · rename_i c
          cases e1
          exact ⟨j, rfl, c, rfl⟩
        · cases e1
      · cases e1
    obtain ⟨j, rfl, cc, rfl⟩ := pick
    obtain ⟨v', ev, rv⟩ := StR.top h1
    cases ev
    have rv : v = .int j := by unfold Rep at rv; exact rv
    subst rv
    refine ⟨j, rfl, ⟨by omega, by omega, cc.1, cc.2.1, by rw [Int.sub_zero]; exact Nat.le_trans cc.2.2 (by decide)⟩, fun q hq => ?_⟩
    have ex : Ext H1 (upd H1 q (.lst (rgV 0 j))) := Ext.new hq
    refine k _ _ F1 ρ1 C1 ((StR.pop h1).result ex (res := .own (.lst (upTo 0 j.toNat))) ⟨q, rfl, hq, rgV 0 j, upd_same, ?_⟩)
    unfold upTo rgV
    rw [Int.sub_zero]
    exact reps_rg (n := 0) _
/-- a store to what a slot owns -/
def dPutO (dv : DE) (j : Nat) (di : DE) : DS := fun τ S => ((dKeep dv τ S).bind fun y τ S => match τ[j]? with
  | some (.own _) => (di τ S).bind fun i τ S => R.of (match y, τ[j]? with
    | .val w, some (.own m) => if (τ.any Sl.isPk) = false then (i.rdS S).bind fun wi => fPut m wi w else none
    | _, _ => none) τ S
  | _ => .no).thenS fun m τ S => .nx (τ.set j (.own m)) S
theorem vs_putO {x : Str} {px : Pos} {i value : Expr} {pos' pos : Pos} {j : Nat} {di dv : DE} (hv : VE D Wx value dv) (hx : ∀ X, CxOk D Wx X → PE X (.Name x px) (tVar j)) (hi : VE D Wx i di) : VS D Wx (.Assign [.Subscript (.Name x px) i pos'] value pos) (dPutO dv j di) := by
  obtain ⟨tv, pv, sv⟩ := ve_keep hv
  obtain ⟨ti, pi, si⟩ := hi
  refine ⟨sPutX (tVar j) ti tv, fun X c => ps_putX (by have := c.un; omega) (hx X c) (pi X c) (pv X c) (by unfold swapsWith; cases value <;> rfl), fun B E hK iw F ρ τ σ S H C Dn h k => ?_⟩
  have k := k.thenS
  refine sv B E hK iw F ρ [] [] τ σ S H C _ rfl h (k.bind.mono fun y τ1 S1 k v H1 F1 ρ1 C1 h1 => ?_)
  cases e0 : τ1[j]? with
  | none => rw [e0] at k; exact k.elim
  | some sl =>
  rw [e0] at k
  cases sl with
  | no => exact k.elim
  | pk _ => exact k.elim
  | val _ => exact k.elim
  | own m0 =>
  obtain ⟨vx, e2, a, rfl, own⟩ := slot_val (stk := [y]) (vstk := [some v]) rfl h1 e0
  refine ⟨_, e2, ?_⟩
  refine si B E hK iw F1 ρ1 [y] [some v] τ1 σ S1 H1 C1 _ rfl h1 (k.bind.mono fun i τ2 S2 k vi H2 F2 ρ2 C2 h2 => ?_)
  obtain ⟨m', e, kk⟩ := k.of
  have pick : ∃ w m, y = .val w ∧ τ2[j]? = some (.own m) ∧ (τ2.any Sl.isPk) = false ∧ (i.rdS S2).bind (fun wi => fPut m wi w) = some m' := by
    cases e3 : τ2[j]? with
    | none => rw [e3] at e; cases y <;> cases e
    | some sl =>
      rw [e3] at e
      cases sl with
      | own m =>
        cases y with
        | val w =>
          have e : (if (τ2.any Sl.isPk) = false then (i.rdS S2).bind fun wi => fPut m wi w else none) = some m' := e
          split at e
          · rename_i hp
            exact ⟨w, m, rfl, rfl, hp, e⟩
          · cases e
        | _ => cases e
      | _ => cases y <;> cases e
  obtain ⟨w, m, rfl, e3, hpk, e⟩ := pick
  obtain ⟨wi, e4, e5⟩ := Option.bind_eq_some_iff.mp e
  obtain ⟨vi', ev, ri⟩ := (StR.top h2).rdS h2.cel e4
  cases ev
  have h3 := StR.pop h2
  obtain ⟨v', ev, rv⟩ := StR.top h3
  cases ev
  have h4 : StR B F2 ρ2 τ2 σ S2 H2 C2 := StR.pop h3
  obtain ⟨b, eb, own1⟩ := h4.ent j _ _ e3 e2
  cases eb
  have nF := h4.nF j m a e3 e2
  obtain ⟨H5, H4, q0, q1, q2⟩ := sim_put (K := B.K) (g := gOf B F2 ρ2 S2 H2) (Z := fun H' => Dn.nx σ H') own1 ri rv nF e5 fun o r => kk σ _ F2 ρ2 C2 (h4.mut e3 e2 (no_pk hpk) r)
  exact ⟨a, H5, H4, rfl, q0, q1, q2⟩
end
end VM

set_option Elab.async false
set_option linter.all false
set_option maxRecDepth 100000
/-! VM49: dicts with tuples for keys, the keys told as displays; o.get((..), c), o[(..)] = v. -/
namespace VM
open PySem PySem.Spec L2
open PyProof.Rows hiding St
/-- keys that are tuples -/
def keysT : List W → Option (List (List Key))
  | [] => some []
  | .tup ws :: r => (match keysW ws, keysT r with
    | some k, some ks => some (k :: ks)
    | _, _ => none)
  | _ :: _ => none
def tupW (k : List Key) : W := .tup (k.map kW)
theorem keysT_map : ∀ l : List (List Key), keysT (l.map tupW) = some l
  | [] => rfl
  | k :: l => by
    show (match keysW (k.map kW), keysT (l.map tupW) with
      | some k, some ks => some (k :: ks)
      | _, _ => none) = _
    rw [keysW_map, keysT_map l]
theorem keysT_nil {ks : List Key} {kk : List (List Key)} (h : keysT (ks.map kW) = some kk) : ks = [] := by
  cases ks with
  | nil => rfl
  | cons p r => cases p <;> cases h
/-- what is told of a key -/
def fGetT (m : MO) (k : List Key) (c : W) : Option W := match m with
  | .dic ks xs => (keysT ks).map fun kk => (lookW kk xs k).getD c
  | _ => none
def fPutT (m : MO) (k : List Key) (w : W) : Option MO := match m with
  | .dic ks xs => if ks.length < 1000000 then (keysT ks).map fun kk => dput ks xs (tupW k) w k kk else none
  | _ => none
theorem keysW_eq : ∀ {ws : List W} {k : List Key}, keysW ws = some k → ws = k.map kW
  | [], k, h => by cases h; rfl
  | w :: ws, k, h => by
    have h : (match keyW w, keysW ws with
      | some k, some ks => some (k :: ks)
      | _, _ => none) = some k := h
    cases e1 : keyW w with
    | none => rw [e1] at h; cases h
    | some a =>
      cases e2 : keysW ws with
      | none => rw [e1, e2] at h; cases h
      | some b =>
        rw [e1, e2] at h
        cases h
        rw [List.map_cons, keyW_eq e1, keysW_eq e2]
theorem rep_key {g : G} {k : Key} {v : V} (h : Rep g (kW k) v) : v = kV k := by
  cases k with
  | inl i => exact h
  | inr x => exact h.1
theorem reps_keys {g : G} : ∀ {k : List Key} {vs : List V}, Reps g (k.map kW) vs → vs = k.map kV
  | [], vs, h => by
    have : vs = [] := h
    exact this
  | a :: k, vs, h => by
    obtain ⟨v, s, rfl, h1, h2⟩ := (show ∃ v s, vs = v :: s ∧ Rep g (kW a) v ∧ Reps g (k.map kW) s by unfold Reps at h; exact h)
    rw [rep_key h1, reps_keys h2] <;> rfl
/-- as a dict with tuples for keys, an empty one turned about where need be -/
theorem own_T {g : G} {ks xs : List W} {a : Addr} {kk : List (List Key)} (own : OwnR g (.dic ks xs) a) (e : keysT ks = some kk) :
    ∃ (kvs : List (List Key × V)) (H1 : Hp), Flip g.H a H1 ∧ (H1 = g.H ∨ ∃ o, H1 = upd g.H a o) ∧ H1 a = some (.dT kvs) ∧ ks = kvs.map (fun p => tupW p.1) ∧ kk = kvs.map (·.1) ∧ Reps g xs (kvs.map (·.2)) := by
  rcases id own with ⟨kvs, q, hks, rs⟩ | ⟨kvs, q, hks, rs⟩
  · have nil : kvs = [] := by
      rw [hks, show (kvs.map fun p => kW p.1) = (kvs.map (·.1)).map kW by rw [List.map_map] <;> rfl] at e
      exact List.map_eq_nil_iff.mp (keysT_nil e)
    subst nil
    subst hks
    cases e
    exact ⟨[], upd g.H a (.dT []), .inr (.inl ⟨q, rfl⟩), .inr ⟨_, rfl⟩, upd_same, rfl, rfl, rs⟩
  · have e2 : (kvs.map fun p => W.tup (p.1.map kW)) = (kvs.map (·.1)).map tupW := by rw [List.map_map] <;> rfl
    refine ⟨kvs, g.H, .inl rfl, .inl rfl, q, hks, ?_, rs⟩
    rw [hks, e2, keysT_map] at e
    exact (Option.some.inj e).symm
theorem dputT_ok {g : G} {k : List Key} {w : W} {v : V} {kvs : List (List Key × V)} {ks xs : List W} (r : Rep g w v) (hk : ks = kvs.map fun p => tupW p.1) (h : Reps g xs (kvs.map (·.2))) :
    ∃ ks' xs', dput ks xs (tupW k) w k (kvs.map (·.1)) = .dic ks' xs' ∧ ks' = ((putK kvs k v).map fun p => tupW p.1) ∧ Reps g xs' ((putK kvs k v).map (·.2)) := by
  have e : ((kvs.map (·.1)).any fun x => decide (x = k)) = (kvs.any fun kv => decide (kv.1 = k)) := by rw [List.any_map] <;> rfl
  unfold dput putK
  rw [e]
  by_cases c : (kvs.any fun kv => decide (kv.1 = k)) = true
  · rw [if_pos c, if_pos c]
    refine ⟨_, _, rfl, ?_, setKeys_reps r h⟩
    rw [hk]
    have two : ∀ l : List (List Key × V), (l.map fun p => tupW p.1) = (l.map (·.1)).map tupW := fun l => by rw [List.map_map] <;> rfl
    rw [two, two, map_fst]
  · rw [if_neg c, if_neg c]
    exact ⟨_, _, rfl, by rw [hk, List.map_append] <;> rfl, by rw [List.map_append]; exact Reps.append h (Reps.cons r Reps.nil)⟩
def rGetF : V → List V → Hp → VK → Prop := fun x vs H Q => ∃ a y z o H1, x = .ref a ∧ vs = [y, z] ∧ Flip H a H1 ∧ DGet H1 a y o ∧ Q (o.getD z) H1
theorem mt_getF {X : Cx} (hu : X.A.units + 1 < cLine) : MtR X "dict.get" rGetF := by
  intro pins s σ H x vs v us Q I rx rv h
  obtain ⟨a, y, z, o, H1, ex, evs, fl, g, q⟩ := h
  exact mt_get2 hu pins s σ H1 x vs v us Q (inv_flip I fl) rx rv ⟨a, y, z, o, ex, evs, g, q⟩
/-- o.get((..), c), o told by a handle -/
def dGetT (dob : DE) (ks : DA) (c : W) : DE := fun τ S => (dob τ S).bind fun x τ S => match x with
  | .val (.hnd n) => (match cellMo S.cells n with
    | some (.dic _ _) => (ks τ S).bind fun rs τ S => R.of ((match valAll rs, cellMo S.cells n with
      | some ws, some m => if ws.length ≤ seqLine then (keysW ws).bind fun k => fGetT m k c else none
      | _, _ => none).map Sl.val) τ S
    | _ => .no)
  | _ => .no
/-- o[(..)] = v, o told by a handle -/
def dPutT (dv dob : DE) (ks : DA) : DS := fun τ S => ((dKeep dv τ S).bind fun y τ S => (dob τ S).bind fun x τ S => (ks τ S).bind fun rs τ S => R.of (match y, x with
  | .val w, .val (.hnd n) => (match valAll rs, cellMo S.cells n with
    | some ws, some m => if ws.length ≤ seqLine then (keysW ws).bind fun k => (fPutT m k w).map fun m' => (n, m') else none
    | _, _ => none)
  | _, _ => none) τ S).thenS fun p τ S => .nx τ (S.put p.1 p.2)
theorem put_same {S : Store} {n : Nat} {m : MO} (h : cellMo S.cells n = some m) : S.put n m = S := by
  have go : ∀ cs : List (Nat × Cell), cellMo cs n = some m → putMo cs n m = cs := by
    intro cs
    induction cs with
    | nil => intro h; rfl
    | cons p r ih =>
      obtain ⟨k, c⟩ := p
      intro h
      show (if k = n then (k, .mo m) :: r else (k, c) :: putMo r n m) = _
      by_cases e : k = n
      · rw [if_pos e]
        cases c with
        | mo m0 =>
          have h : (if k = n then some m0 else cellMo r n) = some m := h
          rw [if_pos e] at h; cases h; rfl
        | ins C ks xs =>
          have h : (if k = n then none else cellMo r n) = some m := h
          rw [if_pos e] at h; cases h
        | fz w =>
          have h : (if k = n then none else cellMo r n) = some m := h
          rw [if_pos e] at h; cases h
      · rw [if_neg e]
        have h : cellMo r n = some m := by
          cases c with
          | mo m0 =>
            have h : (if k = n then some m0 else cellMo r n) = some m := h
            rwa [if_neg e] at h
          | ins C ks xs =>
            have h : (if k = n then none else cellMo r n) = some m := h
            rwa [if_neg e] at h
          | fz w =>
            have h : (if k = n then none else cellMo r n) = some m := h
            rwa [if_neg e] at h
        rw [ih h]
  unfold Store.put
  rw [go _ h]
section
variable {D : DC} {Wx : WX}
theorem ve_getT {name : Str} {apos cpos p1 p2 : Pos} {kd n : Nat} {o : Expr} {es : List Expr} {cst : Const} {w : W} {dob : DE} {dk : DA} (ho : VE D Wx o dob) (hk : VA D Wx es dk) (hc : cW cst = some w) (hname : name = "get") (hld : w.isLD = false) (hbase : plainBase o = true)
    (hs : callC apos cpos [.Tuple es n p1, .Constant cst kd p2] = true) : VE D Wx (.Call (.Attribute o name apos) [.Tuple es n p1, .Constant cst kd p2] [] cpos) (dGetT dob dk w) := by
  subst hname
  obtain ⟨to, po, so⟩ := ho
  obtain ⟨ta, pa, sa⟩ := hk
  obtain ⟨cv, hv, rv⟩ := const_v hc
  refine ⟨tBM D.K "dict" rGetF to (tCons _ (tCons _ tNil)), fun X c => by
    rw [← c.K]
    exact pe_bm PySem.F.plainAttrs_dict PySem.F.slot_dict_get PySem.F.type_dict_get (mt_getF (by have := c.un; omega)) (po X c) (pa_cons (pe_tup (pa X c)) (pa_cons (hv X kd p2) pa_nil rfl) rfl) (ab_plain hbase) (few_of hs) (line_of hs) rfl rfl, fun B E hK iw F ρ stk vstk τ σ S H C Q hl h k => ?_⟩
  refine so B E hK iw F ρ stk vstk τ σ S H C _ hl h (k.bind.mono fun x τ1 S1 k v H1 F1 ρ1 C1 h1 => ?_)
  have pick : ∃ n, x = .val (.hnd n) := by
    split at k
    · exact ⟨_, rfl⟩
    · exact k.elim
  obtain ⟨m, rfl⟩ := pick
  have pick2 : ∃ ks xs, cellMo S1.cells m = some (.dic ks xs) ∧ RP ((dk τ1 S1).bind fun rs τ S => R.of ((match valAll rs, cellMo S.cells m with
      | some ws, some mm => if ws.length ≤ seqLine then (keysW ws).bind fun k => fGetT mm k w else none
      | _, _ => none).map Sl.val) τ S) (Post B stk vstk σ Q) E := by
    dsimp only at k
    split at k
    · rename_i ks xs e0
      exact ⟨ks, xs, e0, k⟩
    · exact k.elim
  obtain ⟨ks0, xs0, e0, k⟩ := pick2
  obtain ⟨v', ev, rv1⟩ := StR.top h1
  cases ev
  have rv1 : v = .ref (ρ1 m) := rep_hnd rv1
  refine ⟨by subst rv1; rw [← hK]; exact (h1.cel.look e0).1.ty, ?_⟩
  refine sa B E hK iw F1 ρ1 (.val (.hnd m) :: stk) (some v :: vstk) τ1 σ S1 H1 C1 _ (by simp [hl]) h1 (k.bind.mono fun rs τ2 S2 k vs H2 F2 ρ2 C2 el h2 => ?_)
  obtain ⟨res, e1, k⟩ := k.of
  obtain ⟨u, e9, rfl⟩ := Option.map_eq_some_iff.mp e1
  have pick3 : ∃ ws mm key, valAll rs = some ws ∧ cellMo S2.cells m = some mm ∧ ws.length ≤ seqLine ∧ keysW ws = some key ∧ fGetT mm key w = some u := by
    split at e9
    · rename_i ws mm hw em
      split at e9
      · rename_i hz
        obtain ⟨key, ek, e2⟩ := Option.bind_eq_some_iff.mp e9
        exact ⟨ws, mm, key, hw, em, hz, ek, e2⟩
      · cases e9
    · cases e9
  obtain ⟨ws, mm, key, hw, em, hz, ek, e2⟩ := pick3
  have rp := vals_all (tops el h2) hw
  have hws := keysW_eq ek
  subst hws
  have hvs := reps_keys rp
  subst hvs
  refine ⟨by rw [← rp.length]; exact Nat.le_trans hz seqLine_le, fun p hp => ?_⟩
  have ex : Ext H2 (upd H2 p (.tup (key.map kV))) := Ext.new hp
  have h3 : StR B F2 ρ2 (.val (.hnd m) :: (stk ++ τ2)) (some v :: (vstk ++ σ)) S2 (upd H2 p (.tup (key.map kV))) C2 := (popAll el h2).heap ex
  obtain ⟨v2, ev2, rv2⟩ := StR.top h3
  cases ev2
  have rv2 : v = .ref (ρ2 m) := rep_hnd rv2
  have lk := h3.cel.look em
  cases mm with
  | lst _ => cases e2
  | dic ks xs =>
    obtain ⟨kk, ekk, eu⟩ := Option.map_eq_some_iff.mp (show (keysT ks).map (fun kk => (lookW kk xs key).getD w) = some u from e2)
    obtain ⟨kvs, H4, fl, hH, h4a, hks, hkk, rs⟩ := own_T lk.1 ekk
    subst hkk
    have l := look_val (g := gOf B F2 ρ2 S2 (upd H2 p (.tup (key.map kV)))) key rs
    have np : p ≠ ρ2 m := fun z => by
      have := (h2.cel.look em)
      have q := this.1.isM
      obtain ⟨o0, eo, _⟩ := q
      have eo : H2 (ρ2 m) = some o0 := eo
      rw [← z, hp] at eo
      cases eo
    have hp4 : H4 p = some (.tup (key.map kV)) := by
      rcases hH with rfl | ⟨o, rfl⟩
      · exact upd_same
      · show upd (upd H2 p (.tup (key.map kV))) (ρ2 m) o p = _
        rw [upd_ne np]; exact upd_same
    have nF := h3.cF _ lk.2
    have ow4 : OwnR (gOf B F2 ρ2 S2 H4) (.dic ks xs) (ρ2 m) ∧ (gOf B F2 ρ2 S2 (upd H2 p (.tup (key.map kV)))).le (gOf B F2 ρ2 S2 H4) := by
      rcases hH with rfl | ⟨o, rfl⟩
      · exact ⟨lk.1, G.le.refl _⟩
      · have le := le_own (g := gOf B F2 ρ2 S2 (upd H2 p (.tup (key.map kV)))) lk.1 nF o
        exact ⟨.inr ⟨kvs, h4a, hks, Reps.le le _ _ rs⟩, le⟩
    have h5 : StR B F2 ρ2 (.val (.hnd m) :: (stk ++ τ2)) (some v :: (vstk ++ σ)) S2 H4 C2 := by
      rcases hH with rfl | ⟨o, rfl⟩
      · exact h3
      · have q := h3.cell (o' := o) em ow4.1
        rw [put_same em] at q
        exact q
    refine ⟨ρ2 m, .ref p, cv, valV kvs key, H4, rv2, rfl, fl, .inr ⟨kvs, key, p, .inl h4a, rfl, hp4, rfl⟩, ?_⟩
    have fin : ∀ (w' : W) (v' : V), Rep (gOf B F2 ρ2 S2 H4) w' v' → u = w' → Q v' H4 := fun w' v' r ew => by
      subst ew
      exact k v' H4 F2 ρ2 C2 ((StR.pop h5).push r)
    cases lkw : lookW (kvs.map (·.1)) xs key with
    | none =>
      rw [lkw] at l eu
      rw [l]
      exact fin w cv (rv _) eu.symm
    | some w' =>
      rw [lkw] at l eu
      obtain ⟨v', l1, l2⟩ := l
      rw [l1]
      exact fin w' v' (Rep.le ow4.2 _ _ l2) eu.symm
theorem vs_putT {o value : Expr} {es : List Expr} {n : Nat} {p1 pos' pos : Pos} {dob dv : DE} {dk : DA} (hv : VE D Wx value dv) (ho : VE D Wx o dob) (hk : VA D Wx es dk) : VS D Wx (.Assign [.Subscript o (.Tuple es n p1) pos'] value pos) (dPutT dv dob dk) := by
  obtain ⟨tv, pv, sv⟩ := ve_keep hv
  obtain ⟨to, po, so⟩ := ho
  obtain ⟨ta, pa, sa⟩ := hk
  refine ⟨sPutX to _ tv, fun X c => ps_putX (by have := c.un; omega) (po X c) (pe_tup (pa X c)) (pv X c) (by unfold swapsWith; cases value <;> rfl), fun B E hK iw F ρ τ σ S H C Dn h k => ?_⟩
  have k := k.thenS
  refine sv B E hK iw F ρ [] [] τ σ S H C _ rfl h (k.bind.mono fun y τ1 S1 k v H1 F1 ρ1 C1 h1 => ?_)
  refine so B E hK iw F1 ρ1 [y] [some v] τ1 σ S1 H1 C1 _ rfl h1 (k.bind.mono fun x τ2 S2 k vx H2 F2 ρ2 C2 h2 => ?_)
  refine sa B E hK iw F2 ρ2 [x, y] [some vx, some v] τ2 σ S2 H2 C2 _ rfl h2 (k.bind.mono fun rs τ3 S3 k vs H3 F3 ρ3 C3 el h3 => ?_)
  obtain ⟨⟨n', m'⟩, e, kk0⟩ := k.of
  have pick : ∃ w ws mm key, y = .val w ∧ x = .val (.hnd n') ∧ valAll rs = some ws ∧ cellMo S3.cells n' = some mm ∧ ws.length ≤ seqLine ∧ keysW ws = some key ∧ fPutT mm key w = some m' := by
    cases y with
    | val w =>
      cases x with
      | val xx =>
        cases xx with
        | hnd n2 =>
          have e : (match valAll rs, cellMo S3.cells n2 with
            | some ws, some m => if ws.length ≤ seqLine then (keysW ws).bind fun k => (fPutT m k w).map fun m' => (n2, m') else none
            | _, _ => none) = some (n', m') := e
          cases hw : valAll rs with
          | none => rw [hw] at e; cases e
          | some ws =>
            cases em : cellMo S3.cells n2 with
            | none => rw [hw, em] at e; cases e
            | some mm =>
              rw [hw, em] at e
              dsimp only at e
              split at e
              · rename_i hz
                obtain ⟨key, ek, e2⟩ := Option.bind_eq_some_iff.mp e
                obtain ⟨m2, e3, e4⟩ := Option.map_eq_some_iff.mp e2
                cases e4
                exact ⟨w, ws, mm, key, rfl, rfl, rfl, em, hz, ek, e3⟩
              · cases e
        | _ => cases e
      | _ => cases e
    | _ => cases e
  obtain ⟨w, ws, mm, key, rfl, rfl, hw, em, hz, ek, e2⟩ := pick
  have rp := vals_all (tops el h3) hw
  have hws := keysW_eq ek
  subst hws
  have hvs := reps_keys rp
  subst hvs
  refine ⟨by rw [← rp.length]; exact Nat.le_trans hz seqLine_le, fun p hp => ?_⟩
  have ex : Ext H3 (upd H3 p (.tup (key.map kV))) := Ext.new hp
  have h4 : StR B F3 ρ3 (.val (.hnd n') :: .val w :: τ3) (some vx :: some v :: σ) S3 (upd H3 p (.tup (key.map kV))) C3 := (popAll el h3).heap ex
  obtain ⟨v2, ev2, rv2⟩ := StR.top h4
  cases ev2
  have rv2 : vx = .ref (ρ3 n') := rep_hnd rv2
  have h5 := StR.pop h4
  obtain ⟨v3, ev3, rv3⟩ := StR.top h5
  cases ev3
  have h6 : StR B F3 ρ3 τ3 σ S3 (upd H3 p (.tup (key.map kV))) C3 := StR.pop h5
  have lk := h6.cel.look em
  have nF := h6.cF _ lk.2
  have np : p ≠ ρ3 n' := fun z => by
    obtain ⟨o0, eo, _⟩ := (h3.cel.look em).1.isM
    have eo : H3 (ρ3 n') = some o0 := eo
    rw [← z, hp] at eo
    cases eo
  cases mm with
  | lst _ => cases e2
  | dic ks xs =>
    have e2 : (if ks.length < 1000000 then (keysT ks).map fun kk => dput ks xs (tupW key) w key kk else none) = some m' := e2
    split at e2
    · rename_i hz2
      obtain ⟨kk, ekk, eu⟩ := Option.map_eq_some_iff.mp e2
      obtain ⟨kvs, H7, fl, hH, h7a, hks, hkk, rs⟩ := own_T lk.1 ekk
      subst hkk
      have hp7 : H7 p = some (.tup (key.map kV)) := by
        rcases hH with rfl | ⟨o, rfl⟩
        · exact upd_same
        · show upd (upd H3 p (.tup (key.map kV))) (ρ3 n') o p = _
          rw [upd_ne np]; exact upd_same
      have small : kvs.length < sizeLine := by
        rw [hks, List.length_map] at hz2
        exact Nat.lt_of_lt_of_le hz2 (by rw [sizeLine_eq]; decide)
      have e8 : upd H7 (ρ3 n') (.dT (putK kvs key v)) = upd (upd H3 p (.tup (key.map kV))) (ρ3 n') (.dT (putK kvs key v)) := by
        rcases hH with rfl | ⟨o, rfl⟩
        · rfl
        · show upd (upd _ (ρ3 n') o) (ρ3 n') _ = _
          rw [upd_upd]
      refine ⟨ρ3 n', H7, upd H7 (ρ3 n') (.dT (putK kvs key v)), rv2, fl, .inl (.inr ⟨kvs, key, p, h7a, rfl, hp7, small, rfl⟩), ?_⟩
      rw [e8]
      have le := le_own (g := gOf B F3 ρ3 S3 (upd H3 p (.tup (key.map kV)))) lk.1 nF (.dT (putK kvs key v))
      obtain ⟨ks', xs', d1, d2, d3⟩ := dputT_ok (k := key) (Rep.le le _ _ rv3) hks (Reps.le le _ _ rs)
      rw [d1] at eu
      subst eu
      exact kk0 σ _ F3 ρ3 C3 (h6.cell em (.inr ⟨_, upd_same, d2, d3⟩))
    · cases e2
end
end VM

set_option Elab.async false
set_option linter.all false
set_option maxRecDepth 100000
/-! VM50: sorted(d) of a dict of texts that a handle tells. -/
namespace VM
open PySem PySem.Spec L2
open PyProof.Rows hiding St
open PySem.W (EachIs)
def sortS (ss : List Str) : List Str := (bySort (ss.map fun x => (x, PyData.str x))).map (·.1)
theorem sortS_V (ss : List Str) : (bySort (ss.map fun x => (V.str x, PyData.str x))).map (·.1) = (sortS ss).map V.str := by
  unfold sortS
  have := bySort_map (V.str) (ss.map fun x => (x, PyData.str x))
  rw [List.map_map] at this
  have e : (ss.map fun x => (V.str x, PyData.str x)) = ss.map ((fun p : Str × PyData => (V.str p.1, p.2)) ∘ fun x => (x, PyData.str x)) := rfl
  rw [e, ← this, List.map_map, List.map_map] <;> rfl
theorem sortS_perm (ss : List Str) : (sortS ss).Perm ss := by
  have := (bySort_perm (ss.map fun x => (x, PyData.str x))).map (·.1)
  rw [List.map_map] at this
  have e : ss.map ((fun p : Str × PyData => p.1) ∘ fun x => (x, PyData.str x)) = ss := by
    rw [show ((fun p : Str × PyData => p.1) ∘ fun x => (x, PyData.str x)) = id from rfl, List.map_id]
  rw [e] at this
  exact this
def rSortDF : List V → Hp → VK → Prop := fun xs H Q => ∃ (a : Addr) (kvs : List (Key × V)) (ss : List Str) (H1 : Hp), xs = [.ref a] ∧ Flip H a H1 ∧ H1 a = some (.dK kvs) ∧ kvs.map (·.1) = ss.map Sum.inr ∧ ss.length ≤ 1000000 ∧
  ∀ p, H1 p = none → Q (.ref p) (upd H1 p (.lst ((sortS ss).map V.str)))
theorem each_strs {h : Heap} : ∀ {us : List Value} {ss : List Str}, StrsAre us ss → EachIs (fun u (p : V × PyData) => RelV p.1 u) us (ss.map fun x => (V.str x, PyData.str x)) ∧ EachIs (fun u (p : V × PyData) => ∃ as, Reads h u p.2 as ∧ as = []) us (ss.map fun x => (V.str x, PyData.str x))
  | _, _, .nil => ⟨.nil, .nil⟩
  | _, _, .cons x t r => by
    obtain ⟨a, b⟩ := each_strs (h := h) r
    exact ⟨.cons ⟨t, rfl⟩ a, .cons ⟨[], .str _ _, rfl⟩ b⟩
theorem cr_sortDF {X : Cx} (hu : X.A.units + 65 < cLine) (hcalm : X.calm = true) : CallR X (.builtin "sorted") rSortDF := by
  intro pins s σ H xs us Q I r q
  obtain ⟨a, kvs, ks, H1, ex, fl, hd, hks, hz, q⟩ := q
  subst ex
  have I := inv_flip I fl
  obtain ⟨u, eu, rx⟩ := vals1 r
  subst eu
  cases rx
  obtain ⟨z, lo, vs, rel, dd⟩ := dk_rd I.hok (.inl hd)
  obtain ⟨ep, hat⟩ := dd.dictAt
  have hkeys : vs.map (·.1) = ks.map Sum.inr := rel.keys.symm.trans hks
  have hl : vs.length = ks.length := by
    have e := congrArg List.length hkeys
    rw [List.length_map, List.length_map] at e
    exact e
  have h16 : vs.length ≤ sizeLine := by rw [hl, sizeLine_eq]; omega
  refine Calls.call_function_entry PyProof.Rows.kind_sorted PyProof.Rows.plain_sorted PyProof.Rows.entry_sorted (PyProof.Rows.args_sorted1 _) ?_
  unfold Builtin.«sorted»
  refine wpAny_bind (m := checkCount "sorted" 1 1 _) (wpAny_pure ?_)
  refine wpAny_bind (PySem.W.kdu_collect (A := X.A.in1) (PySem.W.kdl_dict (knd := mixKind X.prog X.w) (kvs := vs) (ep := ep) lo) (I.ok.hd hcalm) hat h16 fun h' tk acc hk hacc => ?_)
  have hal : acc.toList.length = ks.length := by rw [Array.length_toList, hacc.1, hl]
  have hS : StrsAre acc.toList ks := strs_at hal fun j v e => by
    obtain ⟨k, x, e1, e2⟩ := hacc.2 j v (by rw [← Array.getElem?_toList]; exact e)
    have e3 : (vs.map (·.1))[j]? = some k := by rw [List.getElem?_map, e1]; all_goals rfl
    rw [hkeys, List.getElem?_map] at e3
    cases e4 : ks[j]? with
    | none => rw [e4] at e3; cases e3
    | some y =>
      rw [e4] at e3
      have e5 : Sum.inr y = k := Option.some.inj e3
      subst e5
      obtain ⟨t, ev⟩ := Value.isStrOf_shape (x := y) (v := v) e2
      exact ⟨y, t, rfl, ev⟩
  have I1 : Inv X pins σ H1 { s with heap := h', toks := tk } := I.kept hk
  have szl : acc.toList.length ≤ sizeLine := by rw [hal, sizeLine_eq]; omega
  refine wpAny_bind (wpAny_newList ?_ szl)
  have hoL : (h'.push (seqObj "list" acc.toList.toArray 0)).get? h'.objs.size = some (seqObj "list" acc.toList.toArray 0) := Heap.get?_push_size _ rfl
  show wpAny _ _ _ _ _ { s with heap := h'.push (seqObj "list" acc.toList.toArray 0), toks := tk }
  obtain ⟨e1, e2⟩ := each_strs (h := h'.push (seqObj "list" acc.toList.toArray 0)) hS
  have e2 : EachIs (fun v (b : V × PyData) => ∃ as, Reads (h'.push (seqObj "list" acc.toList.toArray 0)) v b.2 as ∧ h'.objs.size ∉ as) acc.toList (ks.map fun x => (V.str x, PyData.str x)) := e2.mono fun v b ⟨as, rr, z⟩ => ⟨as, rr, by rw [z]; exact List.not_mem_nil⟩
  have al' : PySem.W.AllAlike ((ks.map fun x => (V.str x, PyData.str x)).map (·.2)) := fun d hd e he => by
    rw [List.map_map] at hd he
    obtain ⟨x, _, rfl⟩ := List.mem_map.mp hd
    obtain ⟨y, _, rfl⟩ := List.mem_map.mp he
    rfl
  have so' : PySem.W.Sortable ((ks.map fun x => (V.str x, PyData.str x)).map (·.2)) := .inr fun d hd => by
    rw [List.map_map] at hd
    obtain ⟨x, _, rfl⟩ := List.mem_map.mp hd
    exact ⟨fun z => (by cases z), fun _ z => (by cases z)⟩
  refine wpAny_bind (wpAny_holding (PySem.W.list_sort_data (enc := Prod.snd) (s := { s with heap := h'.push (seqObj "list" acc.toList.toArray 0), toks := tk }) hoL e1 e2 al' so' (by rw [← e1.length]; exact szl) (fun b hb => by
      obtain ⟨x, _, rfl⟩ := List.mem_map.mp hb
      show X.A.units + 1 + 1 + (PyData.str x).depth < cLine
      have : (PyData.str x).depth = 0 := by simp [PyData.depth]
      omega) fun out lo eo => ?_))
  obtain ⟨c, hcc⟩ := sortedHeap_at (vs := acc.toList) (out := out.toArray) hoL
  have eo2 := vals_each eo
  have eb : ((ks.map fun x => (V.str x, PyData.str x)).mergeSort (PySem.W.dataLe false Prod.snd)).map (·.1) = (sortS ks).map V.str := sortS_V ks
  rw [eb] at eo2
  have len : ((sortS ks).map V.str).length ≤ sizeLine := by
    rw [List.length_map, (sortS_perm ks).length_eq, sizeLine_eq]
    omega
  have hn : H1 h'.objs.size = none := I1.hok.fresh (Nat.le_refl _)
  refine wpAny_pure ⟨_, rfl, .ref h'.objs.size, upd H1 h'.objs.size (.lst ((sortS ks).map V.str)), I1.laid (t' := tk) (fun b u e => ?_) (Nat.le_refl _)
    (show ObjOk X.prog X.w _ _ _ (.lst ((sortS ks).map V.str)) from ⟨len, out, c, eo2, hcc⟩), rfl, q _ hn⟩
  have hb : b < h'.objs.size := Heap.lt_size e
  rw [PyProof.Rows.sortedHeap_old (Nat.ne_of_lt hb) (by rw [size_push']; exact Nat.lt_succ_of_lt hb)]
  exact Heap.get?_push_of_some _ e
def strsW : List W → Option (List Str)
  | [] => some []
  | .str x :: r => (strsW r).map (x :: ·)
  | _ :: _ => none
theorem strsW_eq : ∀ {ws : List W} {ss : List Str}, strsW ws = some ss → ws = ss.map .str
  | [], ss, h => by cases h; rfl
  | .str x :: r, ss, h => by
    obtain ⟨s, e, rfl⟩ := Option.map_eq_some_iff.mp (show (strsW r).map (x :: ·) = some ss from h)
    rw [strsW_eq e] <;> rfl
  | .non :: _, _, h => by cases h
  | .bl _ :: _, _, h => by cases h
  | .int _ :: _, _, h => by cases h
  | .tup _ :: _, _, h => by cases h
  | .lst _ :: _, _, h => by cases h
  | .dic _ _ :: _, _, h => by cases h
  | .obj _ _ _ :: _, _, h => by cases h
  | .exc _ :: _, _, h => by cases h
  | .hnd _ :: _, _, h => by cases h
theorem own_K {g : G} {xs : List W} {a : Addr} {ss : List Str} (own : OwnR g (.dic (ss.map .str) xs) a) :
    ∃ (kvs : List (Key × V)) (H1 : Hp), Flip g.H a H1 ∧ (H1 = g.H ∨ ∃ o, H1 = upd g.H a o) ∧ H1 a = some (.dK kvs) ∧ kvs.map (·.1) = ss.map Sum.inr ∧ Reps g xs (kvs.map (·.2)) := by
  have inj : ∀ {kvs : List (Key × V)} {ss : List Str}, (ss.map W.str) = kvs.map (fun p => kW p.1) → kvs.map (·.1) = ss.map Sum.inr := by
    intro kvs
    induction kvs with
    | nil => intro ss h; cases ss with
      | nil => rfl
      | cons _ _ => cases h
    | cons p r ih =>
      intro ss h
      cases ss with
      | nil => cases h
      | cons x t =>
        obtain ⟨h1, h2⟩ := List.cons.inj (show W.str x :: t.map W.str = kW p.1 :: r.map (fun p => kW p.1) from h)
        obtain ⟨k, v⟩ := p
        cases k with
        | inl i => cases h1
        | inr y =>
          cases h1
          rw [List.map_cons, List.map_cons, ih h2]
  rcases id own with ⟨kvs, q, hks, rs⟩ | ⟨kvs, q, hks, rs⟩
  · exact ⟨kvs, g.H, .inl rfl, .inl rfl, q, inj hks, rs⟩
  · have nil : kvs = [] ∧ ss = [] := by
      cases kvs with
      | nil =>
        cases ss with
        | nil => exact ⟨rfl, rfl⟩
        | cons _ _ => cases hks
      | cons p r =>
        cases ss with
        | nil => cases hks
        | cons x t =>
          obtain ⟨h1, _⟩ := List.cons.inj (show W.str x :: t.map W.str = .tup (p.1.map kW) :: r.map (fun p => .tup (p.1.map kW)) from hks)
          cases h1
    obtain ⟨rfl, rfl⟩ := nil
    exact ⟨[], upd g.H a (.dK []), .inr (.inr ⟨q, rfl⟩), .inr ⟨_, rfl⟩, upd_same, rfl, rs⟩
def okStr (x : Str) : Bool := decide (x.length ≤ strLine) && PyData.strOk x
/-- sorted(e), e a dict of texts that a handle tells -/
def dSortH (d : DE) : DE := fun τ S => (d τ S).bind fun x τ S => match x with
  | .val (.hnd n) => (match cellMo S.cells n with
    | some (.dic ks _) => R.of ((strsW ks).bind fun ss => if ss.length ≤ 1000000 ∧ ss.all okStr = true then some (.own (.lst ((sortS ss).map .str))) else none) τ S
    | _ => .no)
  | _ => .no
theorem reps_strL {g : G} : ∀ {ss : List Str}, (∀ x ∈ ss, okStr x = true) → Reps g (ss.map .str) (ss.map V.str)
  | [], _ => Reps.nil
  | x :: r, h => Reps.cons (by
      have q := h x List.mem_cons_self
      unfold okStr at q
      rw [Bool.and_eq_true, decide_eq_true_eq] at q
      exact ⟨rfl, q.1, q.2⟩) (reps_strL fun y hy => h y (List.mem_cons_of_mem _ hy))
section
variable {D : DC} {Wx : WX}
theorem ve_sortH {p pos : Pos} {e : Expr} {d : DE} (hc : D.calm = true) (hg : D.sc.names.lookup ("sorted" : Str) = some .globalImplicit) (hm : D.mg "sorted" = none) (he : VE D Wx e d) (hs : notStar e = true) : VE D Wx (.Call (.Name "sorted" p) [e] [] pos) (dSortH d) := by
  obtain ⟨te, pe, se⟩ := he
  refine ⟨tCB rSortDF (tCons te tNil), fun X c => ?_, fun B E hK iw F ρ stk vstk τ σ S H C Q hl hh k => ?_⟩
  · exact pe_callB (cr_sortDF c.un (c.hot hc)) (c.gl hg) (by rw [c.mg]; exact hm) boot_sorted (pa_cons (pe X c) pa_nil (starEach_cons hs)) (by decide +kernel) (by decide +kernel) (starEach_cons hs) rfl
  · refine se B E hK iw F ρ stk vstk τ σ S H C _ hl hh (k.bind.mono fun x τ1 S1 k v H1 F1 ρ1 C1 h1 => ?_)
    have pick : ∃ n ks xs, x = .val (.hnd n) ∧ cellMo S1.cells n = some (.dic ks xs) ∧ RP (R.of ((strsW ks).bind fun ss => if ss.length ≤ 1000000 ∧ ss.all okStr = true then some (.own (.lst ((sortS ss).map .str))) else none) τ1 S1) (Post B stk vstk σ Q) E := by
      cases x with
      | val xx =>
        cases xx with
        | hnd n =>
          dsimp only at k
          split at k
          · rename_i ks xs e0
            exact ⟨n, ks, xs, rfl, e0, k⟩
          · exact k.elim
        | _ => exact k.elim
      | _ => exact k.elim
    obtain ⟨n, ks, xs, rfl, em, k⟩ := pick
    obtain ⟨res, e1, kf⟩ := k.of
    obtain ⟨ss, ess, e2⟩ := Option.bind_eq_some_iff.mp e1
    split at e2
    · rename_i cc
      cases e2
      have hks := strsW_eq ess
      subst hks
      obtain ⟨v', ev, rv⟩ := StR.top h1
      cases ev
      have rv : v = .ref (ρ1 n) := rep_hnd rv
      have lk := h1.cel.look em
      obtain ⟨kvs, H4, fl, hH, h4a, hkk, rs⟩ := own_K lk.1
      have nF := h1.cF _ lk.2
      have h5 : StR B F1 ρ1 (.val (.hnd n) :: (stk ++ τ1)) (some v :: (vstk ++ σ)) S1 H4 C1 := by
        rcases hH with rfl | ⟨o, rfl⟩
        · exact h1
        · have le := le_own (g := gOf B F1 ρ1 S1 H1) lk.1 nF o
          have ow : OwnR (gOf B F1 ρ1 S1 (upd H1 (ρ1 n) o)) (.dic (ss.map .str) xs) (ρ1 n) := by
            refine .inl ⟨kvs, h4a, ?_, Reps.le le _ _ rs⟩
            have : (kvs.map fun p => kW p.1) = (kvs.map (·.1)).map kW := by rw [List.map_map] <;> rfl
            rw [this, hkk, List.map_map] <;> rfl
          have q := h1.cell (o' := o) em ow
          rw [put_same em] at q
          exact q
      refine ⟨ρ1 n, kvs, ss, H4, by rw [rv], fl, h4a, hkk, cc.1, fun p hp => ?_⟩
      have ex : Ext H4 (upd H4 p (.lst ((sortS ss).map V.str))) := Ext.new hp
      refine kf _ _ F1 ρ1 C1 ((StR.pop h5).result ex (res := .own (.lst ((sortS ss).map .str))) ⟨p, rfl, hp, (sortS ss).map V.str, upd_same, reps_strL fun x hx => ?_⟩)
      exact List.all_eq_true.mp cc.2 x ((sortS_perm ss).mem_iff.mp hx)
    · cases e2
end
end VM

set_option Elab.async false
set_option linter.all false
set_option maxRecDepth 100000
set_option maxHeartbeats 2000000
/-! VM51: an exception leaves a list comprehension. -/
namespace PySem
namespace HandSPX
section
variable {M : Model} {A : Around} {E : Value → Shared → Prop} {s : Shared} {env : Env} {outer l : List Env} {base : Heap} {e L : Addr} {Z : Obj → Prop}
/-- noted by this frame, whatever frame it was in flight of -/
theorem look_overZ {fl : Value} {Q : Unit → Shared → Prop} (hZ : Steady Z) (hfr : A.frames = some (env :: outer)) (hf : env.frame = some L) (stays : base.StaysIn s.heap) (fresh_e : base.get? e = none) (frm : s.heap.FunFrames base (env :: outer)) (ht : TracedZ s.heap base e Z fl) (apart : (fl == rawInt L) = false)
    (hQ : ∀ k, HeldZ base (env :: outer) e Z L k → s.heap.UpToSlots k → Q () { s with heap := k }) :
    wpAny M A (noteFrame (.ref e) env) Q E s := by
  obtain ⟨oe_, vs, T, oT, ts, atE, zE, dataE, fst_, freshT, neT, atT, dataT, heapc⟩ := ht
  unfold noteFrame
  simp only [hf]
  refine wpAny_bind (wpAny_field atE dataE fst_ ?_)
  have isRef : (Value.ref T != Value.none) = true := by simp
  rw [if_pos isRef]
  refine wpAny_bind (wpAny_field atT dataT heapc ?_)
  rw [if_neg (show ¬ ((fl == rawInt L) = true) from by rw [apart]; simp)]
  refine wpAny_bind (wpAny_setField atT dataT (Array.getElem?_eq_some_iff.mp heapc).1 ?_)
  have rest : ∀ b, b ≠ T → (s.heap.update T (Obj.mapFields (·.setIfInBounds 3 Value.none))).get? b = s.heap.get? b := fun b hb => Heap.get?_update_other _ _ (Ne.symm hb)
  have recs : ∀ b o, s.heap.get? b = some o → (∀ vs, o.data ≠ .fields vs) → b ≠ T := fun b o hb hnf q => by
    rw [q, atT] at hb; injection hb with hb; subst hb; exact hnf ts dataT
  refine wpAny_entryZ hZ hfr (frm.of_keeps fun b o hb hnf => ⟨o, (rest b (recs b o hb hnf)).trans hb, rfl⟩) hf ((rest e (Ne.symm neT)).trans atE)
    (fun b o hbo => (rest b fun q => by rw [q, freshT] at hbo; cases hbo).trans (stays b o hbo)) fresh_e dataE (Array.getElem?_eq_some_iff.mp fst_).1 zE fun h' hN => ?_
  obtain ⟨x1, x2, x3, x4⟩ := hN
  exact hQ h' ⟨x1, fresh_e, x2, x3⟩ fun b o hb hnf => x4 b o ((rest b (recs b o hb hnf)).trans hb) hnf
theorem noteFrame_frame {x : Value} {e1 e2 : Env} (h : e1.frame = e2.frame) : noteFrame x e1 = noteFrame x e2 := by
  unfold noteFrame frameOf
  rw [h]
end
end HandSPX
end PySem
namespace VM
open PySem PySem.Spec L2
open PyProof.Rows hiding St
section
variable {M : Model} {A : Around} {env : Env} {s : Shared} {E : Value → Shared → Prop}
/-- what a comprehension's block is to reach -/
def postX (M : Model) (A : Around) (E : Value → Shared → Prop) (Q : Value → Shared → Prop) (acc : Value) (ce : Env) (r : Result) (s' : Shared) : Prop := match r with
  | .ok _ => ∃ m, s'.heap.Ns ce.locals m ∧ ∀ h', Heap.SameBut ce.locals s'.heap h' → Q acc { s' with heap := h' }
  | .error x => ∃ m, s'.heap.Ns ce.locals m ∧ ∀ h', Heap.SameBut ce.locals s'.heap h' → wpAny M A (passOn "comprehension.variables-let-go" x ce : Sem Value) (fun _ _ => False) E { s' with heap := h' }
theorem comp_freeX {e : Expr} {scope : Scope} {pos : Pos} {newAcc first : Sem Value} {g : Comprehension} {gs : List Comprehension} {cl : List (Str × Addr)} {Q : Value → Shared → Prop}
    (cls_ : clausesOf e = g :: gs) (hs : ∀ x, foldedSetIterable g.iter env x = pure x) (clo_ : closureFor scope env = pure cl)
    (knd : scope.kind = .function) (uniq_ : ∀ x ∈ scope.names, x.2 = .local → scope.names.lookup x.1 = some .local)
    (h : wpAny M A first (fun x u₁ => wpAny M A (pyIter x) (fun it u₂ => wpAny M A newAcc (fun acc u₃ =>
      wpAny M A (newFunctionEnv scope env.globals cl [] env.qual none .none (some env)) (fun cenv u₄ =>
        codeAny M A (.compStart e 0 it acc { cenv with scope := relabel scope env }) (postX M A E Q acc { cenv with scope := relabel scope env }) u₄) E u₃) E u₂) E u₁) E s) :
    wpAny M A (comprehension e scope env pos newAcc false first none) Q E s := by
  unfold comprehension
  rw [clo_, cls_]
  refine wpAny_bind (wpAny_mono h (fun x u₁ q₁ => wpAny_bind (wpAny_standAt (wpAny_bind (wpAny_of_eq (hs x) (wpAny_bind (wpAny_holding (wpAny_mono q₁ (fun it u₂ q₂ =>
    wpAny_standIf (wpAny_bind (wpAny_mono q₂ (fun acc u₃ q₃ => wpAny_bind (wpAny_pure (wpAny_bind (wpAny_mono q₃ (fun cenv u₄ q₄ => ?_) fun _ _ h' => h')))) fun _ _ h' => h')))
      fun _ _ h' => h'))))))) fun _ _ h' => h')
  dsimp only
  have vis_ : ∀ x ∈ (scope.names.filter fun x => (x.2 == .local || x.2 == .cell) && x.1 != (".0" : Str)).reverse, x.2 = .local →
      Env.kindOf { cenv with scope := relabel scope env } x.1 = some .local := fun x hx frm => lookup_relabel_local (uniq_ x (List.mem_filter.mp (List.mem_reverse.mp hx)).1 frm)
  refine wpAny_holding (wpAny_bind (wpAny_attempt (wpAny_holding (wpAny_run (codeAny_mono q₄ fun r s' hr => ?_)))))
  cases r with
  | ok f =>
    obtain ⟨m, hn, hr⟩ := hr
    exact wpAny_bind (wpAny_holding (wpAny_comp_letGo (cenv := { cenv with scope := relabel scope env }) knd _ s' m vis_ hn fun h' m' _ hs' => wpAny_pure (hr h' hs')))
  | error x =>
    obtain ⟨m, hn, hr⟩ := hr
    exact wpAny_bind (wpAny_holding (wpAny_comp_letGo (cenv := { cenv with scope := relabel scope env }) knd _ s' m vis_ hn fun h' m' _ hs' => wpAny_mono (hr h' hs') (fun _ _ f => f.elim) fun _ _ y => y))
end
/-- the wish of a block: the slots are the context's -/
def WB (W : WX) (σ : St) : WX := fun c d _ H => W c d σ H
section
variable {X : Cx} {Wx : WX} {σ : St}
/-- what the block lets out, the context takes -/
theorem takes_blk {pins : List (Addr × Obj)} {Kb : Hp} {tc : Shared} {scope : Scope} {ce : Env} {fp : List Addr} {Q : Value → Shared → Prop} {acc : Value} (hs : X.stack = X.env :: X.outer) (hf : X.env.frame = some X.env.locals) (tk : Takes X Wx) (Jb : Inv X pins σ Kb tc) (hfr : ce.frame = X.env.frame) (hC : tc.heap.objs.size ≤ ce.locals)
    (hch : ∀ b ∈ fp, (b ∈ X.ex ∨ X.s_0.heap.objs.size ≤ b) ∧ b ≠ X.env.locals ∧ (∀ x c, X.env.cells.lookup x = some c → c ≠ b) ∧ ∀ p ∈ X.pn ++ pins, p.1 ≠ b) (xe : Value → Shared → Prop) :
    ∀ u s', XE ((X.blk tc Kb scope ce fp).wish xe) (WB Wx σ) u s' → notedBy (model X.prog X.w) X.A ce (fun e s' => postX (model X.prog X.w) X.A X.xe Q acc ce (.error e) s') u s' := by
  rintro u s' ⟨a, B, sI, pins', σ', H', cls, d, rfl, J, nb, up, sky, na, os, ag, w⟩
  have fA : X.A.frames = some (X.env :: X.outer) := by rw [Jb.ok.frames, hs]
  have CL : ce.locals ≠ X.env.locals := fun z => by
    have := Jb.lt
    rw [z] at hC
    exact absurd (Nat.lt_of_lt_of_le this hC) (Nat.lt_irrefl _)
  have sky : Sky B (X.env :: X.outer) a (Zc cls d) ce.locals s'.heap := by rw [← hs]; exact sky
  show wpAny (model X.prog X.w) X.A (noteFrame (.ref a) ce) _ _ s'
  rw [HandSPX.noteFrame_frame hfr]
  have Cfs : ce.locals ∉ frs X.stack := fun z => by
    obtain ⟨_, o, e, _⟩ := Jb.stack.mem z
    exact absurd (Nat.lt_of_lt_of_le (Heap.lt_size e) hC) (Nat.lt_irrefl _)
  have HC : H' ce.locals = none := J.free
  have fin : ∀ fst_, HandSPX.HeldZ B (X.env :: X.outer) a (Zc cls d) X.env.locals fst_ → s'.heap.UpToSlots fst_ → postX (model X.prog X.w) X.A X.xe Q acc ce (.error (.ref a)) { s' with heap := fst_ } := by
    intro fst_ held up1
    obtain ⟨b1, b2, b3, oe_, vs, T, oT, ts, atE, zE, dataE, hv1, freshT, neT, atT, dataT, hv3⟩ := id held
    obtain ⟨m, hn, _⟩ := J.loc
    obtain ⟨oC, es, ep, hoC, rC⟩ := (show sI.heap.Ns ce.locals m from hn)
    have hBC : B.get? ce.locals = some oC := nb _ _ hoC Cfs
    refine ⟨m, ⟨oC, es, ep, b1 _ _ hBC, rC⟩, fun h2 sb => ?_⟩
    have aC : a ≠ ce.locals := fun z => by rw [← z, b2] at hBC; cases hBC
    have TC : T ≠ ce.locals := fun z => by rw [← z, freshT] at hBC; cases hBC
    have he2 : h2.get? a = some oe_ := (sb.2 a aC).trans atE
    have hT2 : h2.get? T = some oT := (sb.2 T TC).trans atT
    generalize hB4 : PySem.W.hideAll B [ce.locals] = B4
    have B4B : ∀ b o, B4.get? b = some o → B.get? b = some o := fun b o e => by rw [← hB4] at e; exact PySem.W.of_hideAll _ e
    have BB4 : ∀ b o, b ≠ ce.locals → B.get? b = some o → B4.get? b = some o := fun b o n e => by rw [← hB4]; exact PySem.W.hideAll_get _ e (by simpa using n)
    have B4C : B4.get? ce.locals = none := by
      cases q : B4.get? ce.locals with
      | none => rfl
      | some o =>
        exfalso
        rw [← hB4] at q
        rw [PySem.W.hideAll_none _ (by simp)] at q
        cases q
    have B4n : ∀ b, B.get? b = none → B4.get? b = none := fun b e => by
      cases q : B4.get? b with
      | none => rfl
      | some o => rw [B4B b o q] at e; cases e
    have std_ : B4.StaysIn h2 := fun b o e => by
      have n : b ≠ ce.locals := fun z => by rw [z, B4C] at e; cases e
      exact (sb.2 b n).trans (b1 b o (B4B b o e))
    have ff2 : h2.FunFrames B4 (X.env :: X.outer) := by
      have f1 : h2.FunFrames B (X.env :: X.outer) := by
        have go : ∀ l : List Env, (∀ L ∈ frs l, L ≠ ce.locals) → fst_.FunFrames B l → h2.FunFrames B l := by
          intro l
          induction l with
          | nil => intro _ _; trivial
          | cons e r ih =>
            rintro n ⟨k1, ⟨L, o, q1, q2, q3, q4⟩, k3⟩
            have nL : L ≠ ce.locals := n L (List.mem_filterMap.mpr ⟨e, List.mem_cons_self, q1⟩)
            exact ⟨k1, ⟨L, o, q1, q2, (sb.2 L nL).trans q3, q4⟩, ih (fun L hL => n L (by
              obtain ⟨e', he', q⟩ := List.mem_filterMap.mp hL
              exact List.mem_filterMap.mpr ⟨e', List.mem_cons_of_mem _ he', q⟩)) k3⟩
        refine go _ (fun L hL z => ?_) b3
        rw [← hs] at hL
        exact Cfs (z ▸ hL)
      exact funFrames_none f1 fun b hb => B4n b (f1.mem hb).1
    have tr2 : HandSPX.TracedZ h2 B4 a (Zc cls d) (rawInt X.env.locals) := ⟨oe_, vs, T, oT, ts, he2, zE, dataE, hv1, B4n T freshT, neT, hT2, dataT, hv3⟩
    show wpAny (model X.prog X.w) X.A (PySem.passOn "comprehension.variables-let-go" (.ref a) ce : Sem Value) _ _ { s' with heap := h2 }
    unfold PySem.passOn
    refine wpAny_bind (wpAny_field he2 dataE hv1 ?_)
    have isRef : ¬ (Value.ref T == Value.none) = true := by simp
    rw [if_neg isRef]
    have fin2 : wpAny (model X.prog X.w) X.A (setFlight (.ref a) ce.frame) (fun _ td => wpAny (model X.prog X.w) X.A (throw (.ref a) : Sem Value) (fun _ _ => False) X.xe td) X.xe { s' with heap := h2 } := by
      rw [hfr, hf]
      refine HandSPX.setFlight_anyZ (l := X.env :: X.outer) std_ ff2 tr2 fun h4 k1 k2 k3 k4 => wpAny_throw (tk _ _ ?_)
      have k3 : HandSPX.TracedZ h4 B4 a (Zc cls d) (rawInt X.env.locals) := k3
      have held4 : HandSPX.HeldZ B4 (X.env :: X.outer) a (Zc cls d) X.env.locals h4 := ⟨k1, B4n a b2, k2, k3⟩
      obtain ⟨G, gY, gN⟩ := restrict h4 fun b => (B4.get? b).isSome || decide (b ∈ frs X.stack)
      have gBase : ∀ b o, B4.get? b = some o → G.get? b = some o := fun b o e => by
        rw [gY b (by simp [e])]
        exact k1 b o e
      have gFr : ∀ b, b ∈ frs X.stack → G.get? b = h4.get? b := fun b hb => gY b (by simp [hb])
      have onG : ∀ b o, G.get? b = some o → h4.get? b = some o ∧ ((B4.get? b).isSome = true ∨ b ∈ frs X.stack) := fun b o e => by
        cases q : ((B4.get? b).isSome || decide (b ∈ frs X.stack)) with
        | false => rw [gN b q] at e; cases e
        | true =>
          rw [gY b q] at e
          have q := (Bool.or_eq_true _ _).mp q
          exact ⟨e, q.imp id of_decide_eq_true⟩
      have noC : ∀ b o, tc.heap.get? b = some o → b ≠ ce.locals := fun b o e z => by
        have fst_ := Heap.lt_size e
        rw [z] at fst_
        exact absurd (Nat.lt_of_lt_of_le fst_ hC) (Nat.lt_irrefl _)
      have U : Un (frs X.stack) fp Kb H' tc.heap sI.heap := J.base
      have slotF : ∀ b ∈ frs X.stack, ∀ o, sI.heap.get? b = some o → ∃ sl, G.get? b = some { o with slots := sl } := fun b hb o e => by
        obtain ⟨_, o', e', hnf⟩ := J.stack.mem (show b ∈ frs X.stack from hb)
        rw [e] at e'; cases e'
        obtain ⟨sl1, e1⟩ := up b o e hnf
        obtain ⟨sl2, e2⟩ := up1 b _ e1 hnf
        have e3 : h2.get? b = some { o with slots := sl2 } := (sb.2 b (fun z => Cfs (z ▸ hb))).trans e2
        obtain ⟨sl4, e4⟩ := k4 b _ e3 hnf
        exact ⟨sl4, by rw [gFr b hb]; exact e4⟩
      refine ⟨a, B4, { tc with heap := G, gens := s'.gens, drawn := s'.drawn, toks := s'.toks }, pins, σ, H', cls, d, rfl, ?_, fun b o e hb => ?_, Heap.UpToSlots.of_keeps fun b o e => (onG b o e).1, .inr (.inr (by rw [hs]; exact held4)), na, os.trans J.os, ag, w⟩
      · refine Jb.call (ch := fp) ⟨fun b o e n hb hx => gBase b o (BB4 b o (noC b o e) (nb b o (U.keep b o e n hb hx) hb)), fun b o e n hb hx => ?_, fun b o e n hx => U.free b o e n hx, fun b o e hx => ?_, U.tups, U.frzs, U.tbls⟩ (fun b o q => ?_) ag hch
        · obtain ⟨sl, q⟩ := U.slot b o e n hb hx
          obtain ⟨sl2, q2⟩ := slotF b hb _ q
          exact ⟨sl2, q2⟩
        · obtain ⟨o', q⟩ := U.there b o e hx
          by_cases hb : b ∈ frs X.stack
          · obtain ⟨sl2, q2⟩ := slotF b hb _ q
            exact ⟨_, q2⟩
          · exact ⟨o', gBase b o' (BB4 b o' (noC b o e) (nb b o' q hb))⟩
        · refine (J.hok b o q).stay (fun c uu hc r => ?_) (fun _ r => r) fun _ _ r => r
          have hcH : H' c ≠ none := by
            rcases hc with hc | hc
            · rw [hc, q]; simp
            · rw [hc]; simp
          refine gBase c uu (BB4 c uu (fun z => hcH (z ▸ HC)) (nb c uu r fun hm => ?_))
          exact hcH (J.stkFree c hm)
      · obtain ⟨e', h⟩ := onG b o e
        rcases h with h | h
        · have ⟨o', q⟩ := Option.isSome_iff_exists.mp h
          have z := k1 b o' q
          rw [e'] at z; cases z
          exact q
        · exact absurd h hb
    first
      | exact wpAny_bind (wpAny_pure (wpAny_bind fin2))
      | exact wpAny_bind fin2
  rcases sky with ⟨hB, hn, frm, oe_, vs, atE, zE, dataE, fst_⟩ | fl | hh
  · exact HandSPX.look_newZ Zc.steady fA frm hf atE hB hn dataE fst_ zE fin
  · exact HandSPX.looks_onZ Zc.steady fA hf fl fin
  · exact HandSPX.look_overZ Zc.steady fA hf hh.1 hh.2.1 hh.2.2.1 hh.2.2.2 (by
      have : ¬ ((ce.locals : Nat) : Int) = ((X.env.locals : Nat) : Int) := fun z => CL (Int.ofNat.inj z)
      simp [rawInt, this]) fin

theorem lc_coreX {pins : List (Addr × Obj)} {s : Shared} {H : Hp} {Q : VK} {elt tg iter : Expr} {ifs : List Expr} {scope : Scope} {own : List (Str × Nat)} {pos pos' : Pos} {wi : TI} {g : TG} {tt : TT} {te : TE} {Qf : Value → Shared → Prop}
    (hc : X.calm = true) (hN : X.N.Nodup) (I : Inv X pins σ H s) (hi : PI X tg iter wi) (ok : BlkOk X.N X.env.scope scope own) (hsX : X.stack = X.env :: X.outer) (hf : X.env.frame = some X.env.locals) (tk : Takes X Wx)
    (hg : ∀ (s : Shared) (H : Hp) (C : Addr) (cl : List (Str × Addr)) (fp : List Addr) (xe : Value → Shared → Prop), Takes ((X.blk s H scope (compEnvC scope cl C X.env) fp).wish xe) (WB Wx σ) → PassesOwn (model X.prog X.w) X.A (compEnvC scope cl C X.env) xe → PG ((X.blk s H scope (compEnvC scope cl C X.env) fp).wish xe) tg g)
    (ht : ∀ (s : Shared) (H : Hp) (C : Addr) (cl : List (Str × Addr)) (fp : List Addr) (xe : Value → Shared → Prop), Takes ((X.blk s H scope (compEnvC scope cl C X.env) fp).wish xe) (WB Wx σ) → PassesOwn (model X.prog X.w) X.A (compEnvC scope cl C X.env) xe → PTs ((X.blk s H scope (compEnvC scope cl C X.env) fp).wish xe) ifs tt)
    (atE : ∀ (s : Shared) (H : Hp) (C : Addr) (cl : List (Str × Addr)) (fp : List Addr) (xe : Value → Shared → Prop), Takes ((X.blk s H scope (compEnvC scope cl C X.env) fp).wish xe) (WB Wx σ) → PassesOwn (model X.prog X.w) X.A (compEnvC scope cl C X.env) xe → PE ((X.blk s H scope (compEnvC scope cl C X.env) fp).wish xe) elt te)
    (hs : ∀ x, foldedSetIterable iter X.env x = pure x) (h : tLc wi g tt te (own.map (·.2)) σ H Q)
    (hRR : ∀ D ce s' m H', Inv X pins σ H' s' → Q (.ref D) H' → s'.heap.Ns ce.locals m → FpOk X pins H' ce.locals → postX (model X.prog X.w) X.A X.xe Qf (.ref D) ce (.ok .next) s') :
    wpAny (model X.prog X.w) X.A (comprehension (.ListComp elt [⟨tg, iter, ifs, 0⟩] scope pos) scope X.env pos' (newList []) false (eval iter X.env) none) Qf X.xe s := by
  have frees : ∀ y ∈ scope.names, y.2 = .free → ∃ c, X.env.cells.lookup y.1 = some c := fun y hy e => by
    rcases ok.free y hy e with k1 | k1
    · exact I.ok.has _ (.inl k1)
    · exact I.ok.has _ (.inr k1)
  refine comp_freeX rfl hs (closure_ok frees) ok.kind (fun y hy e => by rw [ok.uniq y hy, e])
    (thn (hi.run pins s σ H _ I h) fun xv ta hx => thn hx fun itv tb h2 => ?_)
  obtain ⟨it, fp, tn, J, Ka, e, Ja, T, sta, fb, q⟩ := h2
  subst e
  refine wpAny_newObj_type (newEnv_comp ?_) (show (0 : Nat) ≤ sizeLine by decide)
  generalize eqD : tb.heap.objs.size = D
  have noD : Ka D = none := Ja.hok.fresh (Nat.le_of_eq eqD)
  obtain ⟨W, ⟨mu0, wz⟩, turn⟩ := q D noD
  generalize eqc : ({ tb with heap := tb.heap.push { cls := .type "list", data := .seq ([] : List Value).toArray } } : Shared) = tc
  have Jb : Inv X pins σ (upd Ka D (.lst [])) tc := by
    rw [← eqc]
    refine Ja.laid (t' := tb.toks) (fun b o e => Heap.get?_push_of_some _ e) (Nat.le_of_eq eqD) ⟨Nat.zero_le _, [], 0, .nil, ?_⟩
    rw [← eqD]
    exact Heap.get?_push_size _ rfl
  have heapc : tc.heap = tb.heap.push { cls := .type "list", data := .seq ([] : List Value).toArray } := by rw [← eqc]
  have below_ : ∀ b ∈ fp, b < tb.heap.objs.size := fun b hb => by
    obtain ⟨o, e, _⟩ := T.obj _ _ sta b hb
    exact Heap.lt_size e
  have far : ∀ b ∈ fp, FpOk X pins (upd Ka D (.lst [])) b ∧ b < tc.heap.objs.size := fun b hb => by
    have hlt := below_ b hb
    refine ⟨⟨?_, (fb b hb).2⟩, by rw [heapc, Heap.size_push]; exact Nat.lt_succ_of_lt hlt⟩
    rw [upd_ne (by rw [← eqD]; exact Nat.ne_of_lt hlt)]
    exact (fb b hb).1
  have stc : tn 0 tc.heap := T.keep _ _ _ sta fun b _ o e => by rw [heapc]; exact Heap.get?_push_of_some _ e
  have hch : ∀ b ∈ fp, (b ∈ X.ex ∨ X.s_0.heap.objs.size ≤ b) ∧ b ≠ X.env.locals ∧ (∀ x c, X.env.cells.lookup x = some c → c ≠ b) ∧ ∀ p ∈ X.pn ++ pins, p.1 ≠ b := fun b hb => ⟨(far b hb).1.2.2.2.1, (far b hb).1.2.1, (far b hb).1.2.2.2.2.1, (far b hb).1.2.2.2.2.2⟩
  generalize eqce : compEnvC scope (cellsFrom (tc.heap.objs.size + 1) scope.names (cloFrom X.env.cells scope.names [])) tc.heap.objs.size X.env = ce
  have celoc : ce.locals = tc.heap.objs.size := by subst eqce; rfl
  have cefr : ce.frame = X.env.frame := by subst eqce; rfl
  have tkB := fun (Kb : Hp) (Jb : Inv X pins σ Kb tc) => takes_blk (Q := Qf) (acc := .ref D) (scope := scope) hsX hf tk Jb cefr (Nat.le_of_eq celoc.symm) hch (notedBy (model X.prog X.w) X.A ce fun e s' => postX (model X.prog X.w) X.A X.xe Qf (.ref D) ce (.error e) s')
  have paB : PassesOwn (model X.prog X.w) X.A ce (notedBy (model X.prog X.w) X.A ce fun e s' => postX (model X.prog X.w) X.A X.xe Qf (.ref D) ce (.error e) s') := PassesOwn.looking
  have Jc := (block_start Jb ok hN far).wish (notedBy (model X.prog X.w) X.A ce fun e s' => postX (model X.prog X.w) X.A X.xe Qf (.ref D) ce (.error e) s')
  have pg := hg tc (upd Ka D (.lst [])) tc.heap.objs.size (cellsFrom (tc.heap.objs.size + 1) scope.names (cloFrom X.env.cells scope.names [])) fp (notedBy (model X.prog X.w) X.A ce fun e s' => postX (model X.prog X.w) X.A X.xe Qf (.ref D) ce (.error e) s')
  have pt := ht tc (upd Ka D (.lst [])) tc.heap.objs.size (cellsFrom (tc.heap.objs.size + 1) scope.names (cloFrom X.env.cells scope.names [])) fp (notedBy (model X.prog X.w) X.A ce fun e s' => postX (model X.prog X.w) X.A X.xe Qf (.ref D) ce (.error e) s')
  have pe := atE tc (upd Ka D (.lst [])) tc.heap.objs.size (cellsFrom (tc.heap.objs.size + 1) scope.names (cloFrom X.env.cells scope.names [])) fp (notedBy (model X.prog X.w) X.A ce fun e s' => postX (model X.prog X.w) X.A X.xe Qf (.ref D) ce (.error e) s')
  rw [eqce] at Jc pg pt pe
  have pg := pg (tkB _ Jb) paB
  have pt := pt (tkB _ Jb) paB
  have pe := pe (tkB _ Jb) paB
  show codeAny _ _ (.compStart (.ListComp elt [⟨tg, iter, ifs, 0⟩] scope pos) 0 (.ref it) (.ref D) (compEnvC scope (cellsFrom (tc.heap.objs.size + 1) scope.names (cloFrom X.env.cells scope.names [])) tc.heap.objs.size X.env)) (postX (model X.prog X.w) X.A X.xe Qf (.ref D) (compEnvC scope (cellsFrom (tc.heap.objs.size + 1) scope.names (cloFrom X.env.cells scope.names [])) tc.heap.objs.size X.env)) { tc with heap := pushCells (tc.heap.push { cls := .type "dict", data := .dict #[] }) scope.names }
  rw [eqce]
  have fresh_ : ∀ b ∈ fp, (upd Ka D (.lst [])) b = none := fun b hb => (far b hb).1.1
  generalize hxe : (notedBy (model X.prog X.w) X.A ce fun e s' => postX (model X.prog X.w) X.A X.xe Qf (.ref D) ce (.error e) s') = xe at Jc pg pt pe
  generalize eqK : upd Ka D (.lst []) = Kb at Jb Jc pg pt pe wz fresh_ far
  generalize eqd : ({ tc with heap := pushCells (tc.heap.push { cls := .type "dict", data := .dict #[] }) scope.names } : Shared) = td at Jc ⊢
  have std_ : tn 0 td.heap := T.keep _ _ _ stc fun b _ o e => by rw [← eqd]; exact pushCells_keeps _ _ _ _ (Heap.get?_push_of_some _ e)
  have still : ∀ {σ' : St} {H' : Hp} {s' : Shared}, Inv ((X.blk tc Kb scope ce fp).wish xe) [] σ' H' s' → (∀ b ∈ fp, H' b = none) → ∀ b ∈ fp, FpOk ((X.blk tc Kb scope ce fp).wish xe) [] H' b := fun {σ' H' s'} I' hn b hb =>
    have ⟨f1, f4⟩ := I'.ok.exf b hb
    ⟨hn b hb, f1, I'.ok.exfs b hb, .inl hb, f4, fun p hp => by
      have hp : p ∈ ([] : List (Addr × Obj)) ++ [] := hp
      simp at hp⟩
  have loop : codeAny (model X.prog X.w) X.A (.compLoop (.ListComp elt [⟨tg, iter, ifs, 0⟩] scope pos) 0 (.ref it) (.ref D) ce) (postX (model X.prog X.w) X.A X.xe Qf (.ref D) ce) td := by
    refine compLoop_any (fun n s' => ∃ i H', Inv ((X.blk tc Kb scope ce fp).wish xe) [] (wipe σ (own.map (·.2))) H' s' ∧ tn i s'.heap ∧ (∀ b ∈ fp, H' b = none) ∧ W i n H') ?_ mu0 ⟨0, Kb, Jc, std_, fresh_, wz⟩
    rintro n te5 ⟨i, Kd, Jd, ste, nd5, wd⟩
    rw [hxe]
    rcases turn i n Kd wd with ⟨stop, qq⟩ | ⟨go, Nx, next_, step⟩
    · have tdone := T.done ((X.blk tc Kb scope ce fp).wish xe) rfl rfl rfl hc i [] te5 _ Kd (fun _ _ => False) Jd (still Jd nd5) ste stop
      refine thnF tdone fun r tf ⟨hr, Je⟩ => ?_
      subst hr
      have Jf : Inv X pins σ Kd tf := Jb.call' (ch := fp) Je.os Je.base Je.hok Je.bare fun b hb => ⟨(far b hb).1.2.2.2.1, (far b hb).1.2.1, (far b hb).1.2.2.2.2.1, (far b hb).1.2.2.2.2.2⟩
      have noC : Kd tc.heap.objs.size = none := by
        have z : Kd ce.locals = none := Je.free
        rw [celoc] at z
        exact z
      obtain ⟨m, hn, _⟩ := Je.loc
      have hn : tf.heap.Ns ce.locals m := hn
      exact hRR D ce tf m Kd Jf qq hn (by rw [celoc]; exact Jb.fpOk (Nat.le_refl _) noC)
    · have titem := T.item ((X.blk tc Kb scope ce fp).wish xe) rfl rfl rfl hc i [] te5 _ Kd (fun _ _ => False) Jd (still Jd nd5) ste go
      refine thnF titem fun r tf ⟨u, hr, h6⟩ => ?_
      subst hr
      refine thnF h6 fun _ tg5 ⟨x, Kf, Jf, rg, yg, stg, ng⟩ => ?_
      have I7' := Jf.pinned (still Jf ng) (T.obj _ _ stg)
      refine wpAny_mono (pg.run _ tg5 _ Kf x u _ I7' rg (step x Kf yg)) (fun _ th ⟨σ8, Kg, Jg, wip, qg⟩ => ?_) fun _ _ z => z
      refine wpAny_mono (pt.run _ th σ8 Kg _ Jg qg) (fun b ti ⟨Kh, Jh, qh⟩ => ?_) fun _ _ z => z
      have fin : ∀ {s' : Shared} {H' : Hp}, Inv ((X.blk tc Kb scope ce fp).wish xe) ([] ++ pinsAt fp tg5.heap) σ8 H' s' → Nx H' → ∃ m, m < n ∧ ∃ i H', Inv ((X.blk tc Kb scope ce fp).wish xe) [] (wipe σ (own.map (·.2))) H' s' ∧ tn i s'.heap ∧ (∀ b ∈ fp, H' b = none) ∧ W i m H' := fun {s' H'} I' nxt => by
        obtain ⟨m', hm, w'⟩ := next_ H' nxt
        have pin' : ∀ b ∈ fp, ∀ o, tg5.heap.get? b = some o → s'.heap.get? b = some o ∧ H' b = none := fun b hb o e =>
          have ⟨z1, z2, _⟩ := I'.pin (b, o) (List.mem_append_right _ (List.mem_append_right _ (mem_pinsAt hb e)))
          ⟨z1, z2⟩
        have frm : (wipe σ (own.map (·.2))).length = σ8.length := by rw [← wip, wipe_length]
        refine ⟨m', hm, i + 1, H', (I'.unpinned (pins := [])).weak frm (fun j v e => ?_), T.keep _ _ _ stg fun b hb o e => (pin' b hb o e).1, fun b hb => ?_, w'⟩
        · rw [← wip] at e
          exact (wipe_some e).1
        · obtain ⟨o, e, _⟩ := T.obj _ _ stg b hb
          exact (pin' b hb o e).2
      cases b with
      | false =>
        simp only [Bool.false_eq_true, if_false] at qh ⊢
        exact fin Jh qh
      | true =>
        simp only [if_true] at qh ⊢
        refine wpAny_mono (pe.run _ ti σ8 Kh _ Jh qh) (fun z tj ⟨yv, Ki, Ji, rj, acc, atD, roomD, nxt⟩ => ?_) fun _ _ z => z
        exact app_ok (X := (X.blk tc Kb scope ce fp).wish xe) Ji atD roomD rj fun tk_ Jj => fin Jj nxt
  exact codeAny_compStart_list loop (T.self X.A 0 _ _ _ std_ loop)
/-- as a value -/
theorem pe_lcX {elt tg iter : Expr} {ifs : List Expr} {scope : Scope} {own : List (Str × Nat)} {pos : Pos} {wi : TI} {g : TG} {tt : St → TT} {te : St → TE} (hc : X.calm = true) (hN : X.N.Nodup) (hi : PI X tg iter wi) (ok : BlkOk X.N X.env.scope scope own) (hsX : X.stack = X.env :: X.outer) (hf : X.env.frame = some X.env.locals) (tk : Takes X Wx)
    (hg : ∀ (σ : St) (s : Shared) (H : Hp) (C : Addr) (cl : List (Str × Addr)) (fp : List Addr) (xe : Value → Shared → Prop), Takes ((X.blk s H scope (compEnvC scope cl C X.env) fp).wish xe) (WB Wx σ) → PassesOwn (model X.prog X.w) X.A (compEnvC scope cl C X.env) xe → PG ((X.blk s H scope (compEnvC scope cl C X.env) fp).wish xe) tg g)
    (ht : ∀ (σ : St) (s : Shared) (H : Hp) (C : Addr) (cl : List (Str × Addr)) (fp : List Addr) (xe : Value → Shared → Prop), Takes ((X.blk s H scope (compEnvC scope cl C X.env) fp).wish xe) (WB Wx σ) → PassesOwn (model X.prog X.w) X.A (compEnvC scope cl C X.env) xe → PTs ((X.blk s H scope (compEnvC scope cl C X.env) fp).wish xe) ifs (tt σ))
    (atE : ∀ (σ : St) (s : Shared) (H : Hp) (C : Addr) (cl : List (Str × Addr)) (fp : List Addr) (xe : Value → Shared → Prop), Takes ((X.blk s H scope (compEnvC scope cl C X.env) fp).wish xe) (WB Wx σ) → PassesOwn (model X.prog X.w) X.A (compEnvC scope cl C X.env) xe → PE ((X.blk s H scope (compEnvC scope cl C X.env) fp).wish xe) elt (te σ))
    (hs : ∀ x, foldedSetIterable iter X.env x = pure x := by intro _; rfl) :
    PE X (.ListComp elt [⟨tg, iter, ifs, 0⟩] scope pos) (fun σ H Q => tLc wi g (tt σ) (te σ) (own.map (·.2)) σ H Q) := by
  refine ⟨fun pins s σ H Q I h => ?_⟩
  rw [eval_ListComp]
  refine lc_coreX hc hN I hi ok hsX hf tk (hg σ) (ht σ) (atE σ) hs h fun D ce s' m H' I' q hn f => ⟨m, hn, fun h'' sb => ?_⟩
  obtain ⟨f0, f1, fb, far, f4, f5⟩ := f
  exact ⟨.ref D, H', I'.turned (t' := s'.toks) (fun b o hb e => (sb.2 b hb).trans e) f0 f1 far f4 f5, rfl, q⟩
end
end VM

set_option Elab.async false
set_option linter.all false
/-! VM52: a comprehension that an exception may leave. -/
namespace VM
open PySem PySem.Spec L2
open PyProof.Rows hiding St
def Sl.valO : Sl → Sl
  | .val w => .val w
  | _ => .no
/-- the values alone -/
def valT (τ : Tau) : Tau := τ.map Sl.valO
def R.exT {α : Type} (r : R α) (τ : Tau) : R α := match r with
  | .ex C _ S => .ex C (valT τ) S
  | r => r
theorem RP.exT {α β : Type} {r : R α} {τ0 : Tau} {f : α → Tau → Store → R β} {P : β → Tau → Store → Prop} {E : XW} (h : RP ((r.exT τ0).bind f) P E) : RP r (fun a τ S => RP (f a τ S) P E) (fun C _ S => E C (valT τ0) S) := by
  cases r with
  | ok a τ S => exact h
  | ex C τ S => exact h
  | no => exact h.elim
def lcLoopX (t : Tg) (vs : List Nat) (tt : DT) (te : DE) : List W → List W → Tau → Store → R (List W)
  | [], acc, τ, S => .ok acc τ S
  | w :: ws, acc, τ, S => (R.of (t.put w τ) τ S).bind fun τ1 _ S => (tt τ1 S).bind fun b τ2 S2 => match b with
    | true => (te τ2 S2).bind fun y τ3 S3 => (match y with
      | .val y => if (τ3.any Sl.isPk) = false ∧ acc.length < seqLine then lcLoopX t vs tt te ws (acc ++ [y]) (wipeT τ3 vs) S3 else .no
      | _ => .no)
    | false => lcLoopX t vs tt te ws acc (wipeT τ2 vs) S2
def dLcX (di : DI) (t : Tg) (vs : List Nat) (tt : DT) (te : DE) : DE := fun τ S => (di τ S).bind fun p τ S => if (vs.all fun v => (τ.getD v .no).plain) = true ∧ (τ.any Sl.isPk) = false then
  ((lcLoopX t vs tt (dKeep te) p.2 [] (wipeT τ vs) S).exT τ).bind fun acc τe S => .ok (.own (.lst acc)) (mend τ τe vs) S else .no
theorem sim_lcX {B : Base} {E : XW} {W' : WX} {K : PySem.W.Frag} (hK : B.K = K) {t : Tg} {vl : List Nat} {g1 : TT} {tt : DT} {te : TE} {de : DE} {ws : List W} {J : It} {Dd : Addr} {stk : List Sl} {vstk : List (Option V)} {σ : St} {Q : Hp → Prop} {P : List W → Tau → Store → Prop}
    (imp : ∀ F ρ gs gv S H C, StR B F ρ gs gv S H C → Imp (B.re F ρ gs gv S H C) E W')
    (st : ∀ B : Base, B.K = K → Imp B E W' → SimT B E g1 tt) (se : ∀ B : Base, B.K = K → Imp B E W' → Sim B E te de) (hts : ∀ i ∈ t.slots, i ∈ vl) (hs : stk.length = vstk.length) (hY : ∀ F ρ τ σ S H C, StR B F ρ (stk ++ τ) (vstk ++ σ) S H C → (∀ (i : Nat) w, ws[i]? = some w → J.go i H ∧ ∀ x H', J.yld i H x H' → Ext H H' ∧ Rep (gOf B F ρ S H') w x) ∧ J.stop ws.length H)
    (hpk : ∀ (i : Nat) w, stk[i]? = some (.pk w) → vstk[i]? ≠ some (some (.ref Dd))) (old : Dd ∈ B.A0 ∨ B.H0 Dd = none)
    (fin : ∀ F ρ τ S H C acc vs, StR B F ρ (stk ++ τ) (vstk ++ wipe σ vl) S H C → Hid F (stk ++ τ) (vstk ++ wipe σ vl) H C Dd vs → Reps (gOf B F ρ S H) acc vs → P acc τ S → Q H)
    {F ρ τ S H C} (h : StR B F ρ (stk ++ τ) (vstk ++ wipe σ vl) S H C) (d : Hid F (stk ++ τ) (vstk ++ wipe σ vl) H C Dd []) (hpt : (τ.any Sl.isPk) = false) (k : RP (lcLoopX t vl tt de ws [] τ S) P E) :
    ∃ Wm : Nat → Nat → Hp → Prop, (∃ m, Wm 0 m H) ∧ ∀ i m H, Wm i m H →
      (J.stop i H ∧ Q H) ∨ (J.go i H ∧ ∃ Nx : Hp → Prop, (∀ H', Nx H' → ∃ m', m' < m ∧ Wm (i + 1) m' H') ∧ ∀ x H', J.yld i H x H' → tTg K t x (wipe σ vl) H' fun σ2 H2 => wipe σ2 vl = wipe σ vl ∧ g1 σ2 H2 fun b H3 =>
        if b = true then te σ2 H3 fun y H4 => ∃ acc, H4 Dd = some (.lst acc) ∧ acc.length < sizeLine ∧ Nx (upd H4 Dd (.lst (acc ++ [y]))) else Nx H3) := by
  refine ⟨fun i m H => m = ws.length - i ∧ i ≤ ws.length ∧ ∃ τ S F ρ C acc vs, StR B F ρ (stk ++ τ) (vstk ++ wipe σ vl) S H C ∧ Hid F (stk ++ τ) (vstk ++ wipe σ vl) H C Dd vs ∧ Reps (gOf B F ρ S H) acc vs ∧ RP (lcLoopX t vl tt de (ws.drop i) acc τ S) P E,
    ⟨ws.length, by simp, Nat.zero_le _, τ, S, F, ρ, C, [], [], h, d, Reps.nil, k⟩, ?_⟩
  rintro i m H ⟨rfl, hi, τ, S, F, ρ, C, acc, vs, h, d, r, k⟩
  obtain ⟨Y1, Y2⟩ := hY F ρ τ _ S H C h
  by_cases hlt : i < ws.length
  · obtain ⟨go, yl⟩ := Y1 i ws[i] (by simp [hlt])
    refine .inr ⟨go, fun H' => ∃ τ S F ρ C acc vs, StR B F ρ (stk ++ τ) (vstk ++ wipe σ vl) S H' C ∧ Hid F (stk ++ τ) (vstk ++ wipe σ vl) H' C Dd vs ∧ Reps (gOf B F ρ S H') acc vs ∧ RP (lcLoopX t vl tt de (ws.drop (i + 1)) acc τ S) P E,
      fun H' n => ⟨ws.length - (i + 1), by omega, rfl, hlt, n⟩, fun x H' y => ?_⟩
    obtain ⟨ex, rx⟩ := yl x H' y
    rw [List.drop_eq_getElem_cons hlt] at k
    unfold lcLoopX at k
    obtain ⟨τ1, e1, k⟩ := k.bind.of
    have h' := h.heap ex
    have d' : Hid F (stk ++ τ) (vstk ++ wipe σ vl) H' C Dd vs := ⟨ex _ _ d.at_, d.nF, d.nC, d.nO⟩
    have r' := Reps.le (G.le_ext (g := gOf B F ρ S H) ex) _ _ r
    have hr := h'.re
    have im := imp F ρ (stk ++ τ) (vstk ++ wipe σ vl) S H' C h'
    refine sim_tg (B := B.re F ρ (stk ++ τ) (vstk ++ wipe σ vl) S H' C) hK hs hr rx e1 fun σ2 hw h2 => ?_
    have hw2 : wipe σ2 vl = wipe σ vl := by rw [hw vl hts, wipe_wipe]
    refine ⟨hw2, ?_⟩
    refine st (B.re F ρ (stk ++ τ) (vstk ++ wipe σ vl) S H' C) hK im F ρ stk vstk τ1 σ2 S H' C _ hs h2 (RP.bind k |>.mono fun b τ2 S2 k H2 F2 ρ2 C2 h2 => ?_)
    have dn : ∀ {F' ρ' gs' gv' S' H'' C'}, StR (B.re F ρ (stk ++ τ) (vstk ++ wipe σ vl) S H' C) F' ρ' gs' gv' S' H'' C' → Hid F' gs' gv' H'' C' Dd vs := fun q => Hid.step h' d' q
    cases b with
    | false =>
      refine Eq.mpr (if_neg Bool.false_ne_true) ?_
      have h3 := (h'.unre h2).wipe hs vl
      rw [hw2] at h3
      have d2 := dn h2
      refine ⟨wipeT τ2 vl, S2, F2, ρ2, C2, acc, vs, h3, ⟨d2.at_, d2.nF, d2.nC, fun j m e1 e2 => ?_⟩, Reps.le (h'.le_re h2) _ _ r', k⟩
      rcases h3.oN j m Dd e1 e2 with _ | _ <;> exact (Hid.step h' d' (h2.wipe hs vl)).nO j m e1 (by rw [hw2]; exact e2)
    | true =>
      refine Eq.mpr (if_pos rfl) ?_
      refine se (B.re F ρ (stk ++ τ) (vstk ++ wipe σ vl) S H' C) hK im F2 ρ2 stk vstk τ2 σ2 S2 H2 C2 _ hs h2 (RP.bind k |>.mono fun y τ3 S3 k v H3 F3 ρ3 C3 h3 => ?_)
      cases y with
      | val y =>
        have k : RP (if (τ3.any Sl.isPk) = false ∧ acc.length < seqLine then lcLoopX t vl tt de (ws.drop (i + 1)) (acc ++ [y]) (wipeT τ3 vl) S3 else .no) P E := k
        split at k
        · rename_i hz
          obtain ⟨v', ev, rv⟩ := StR.top h3
          cases ev
          have h4 := StR.pop h3
          have d4 := dn h4
          have r4 := Reps.le (h'.le_re h3) _ _ r'
          refine ⟨vs, d4.at_, by rw [← r.length]; exact Nat.lt_of_lt_of_le hz.2 seqLine_le, ?_⟩
          have h5 : StR B F3 ρ3 (stk ++ τ3) (vstk ++ σ2) S3 H3 C3 := h'.unre h4
          have np := no_pkS (σ := σ2) hs hpk hz.1
          have h6 := h5.hidUpd (o' := .lst (vs ++ [v])) d4 np old
          have h7 := h6.wipe hs vl
          rw [hw2] at h7
          have lq : (gOf B F3 ρ3 S3 H3).le (gOf B F3 ρ3 S3 (upd H3 Dd (.lst (vs ++ [v])))) := le_own (g := gOf B F3 ρ3 S3 H3) (m := .lst acc) (a := Dd) ⟨vs, d4.at_, r4⟩ d4.nF _
          refine ⟨wipeT τ3 vl, S3, F3, ρ3, C3, acc ++ [y], vs ++ [v], h7, ⟨upd_same, d4.nF, d4.nC, fun j m e1 e2 => ?_⟩, Reps.append (Reps.le lq _ _ r4) (Reps.cons (Rep.le lq _ _ rv) Reps.nil), k⟩
          exact (Hid.step h' d' (h4.wipe hs vl)).nO j m e1 (by rw [hw2]; exact e2)
        · exact k.elim
      | _ => exact k.elim
  · have e : i = ws.length := by omega
    subst e
    rw [List.drop_length] at k
    exact .inl ⟨Y2, fin F ρ τ S H C acc vs h d r k⟩
section
variable {D : DC} {Wx : WX}
theorem valT_len (τ : Tau) : (valT τ).length = τ.length := List.length_map _
/-- the exception leaves the block with the values that stood ahead of it -/
theorem imp_blk {B : Base} {E : XW} {F1 ρ1 stk vstk τ1 σ S1 H1 C1} (hl : stk.length = vstk.length) (iw : Imp B E Wx) (h1 : StR B F1 ρ1 (stk ++ τ1) (vstk ++ σ) S1 H1 C1) {F ρ gs gv S H C} (h0 : StR (B.re F1 ρ1 (stk ++ τ1) (vstk ++ σ) S1 H1 C1) F ρ gs gv S H C) :
    Imp ((B.re F1 ρ1 (stk ++ τ1) (vstk ++ σ) S1 H1 C1).re F ρ gs gv S H C) (fun Cn _ S => E Cn (valT τ1) S) (WB Wx σ) := by
  intro Cn τe S' F2 ρ2 C2 σe H' q e
  have q1 := h0.unre q
  have q2 := h1.unre q1
  have le := h1.le_re q1
  refine iw Cn (valT τ1) S' F2 ρ2 C2 σ H' (q2.patch (by rw [valT_len]; exact h1.len2 hl) fun i sl v e1 e2 => ?_) e
  unfold valT at e1
  rw [List.getElem?_map] at e1
  obtain ⟨sl0, e3, rfl⟩ := Option.map_eq_some_iff.mp e1
  cases sl0 with
  | val w =>
    obtain ⟨v', e4, x, ex, r⟩ := slot_val hl h1 e3
    rw [e2] at e4
    cases e4
    exact .inr (.inr ⟨w, x, rfl, ex, Rep.le le _ _ r⟩)
  | _ => exact .inr (.inl rfl)
theorem sim_dLcX {B : Base} {E : XW} (hK : B.K = D.K) (iw : Imp B E Wx) {t : Tg} {vl : List Nat} {wi : TI} {di : DI} {g1 : St → TT} {tt : DT} {te : St → TE} {de : DE} (si : SimI B E wi di)
    (st : ∀ (σ : St) (B : Base) (E : XW), B.K = D.K → Imp B E (WB Wx σ) → SimT B E (g1 σ) tt) (se : ∀ (σ : St) (B : Base) (E : XW), B.K = D.K → Imp B E (WB Wx σ) → Sim B E (te σ) de) (hts : ∀ i ∈ t.slots, i ∈ vl) :
    Sim B E (fun σ H Q => tLc wi (tTg D.K t) (g1 σ) (te σ) vl σ H Q) (dLcX di t vl tt de) := by
  intro F ρ stk vstk τ σ S H C Q hl h k
  refine si F ρ stk vstk τ σ S H C _ hl h (RP.bind k |>.mono fun p τ1 S1 k J v H1 F1 ρ1 C1 h1 y => fun Dd hD => ?_)
  obtain ⟨e, ws⟩ := p
  have k : RP (if (vl.all fun v => (τ1.getD v .no).plain) = true ∧ (τ1.any Sl.isPk) = false then ((lcLoopX t vl tt (dKeep de) ws [] (wipeT τ1 vl) S1).exT τ1).bind fun acc τe S => .ok (.own (.lst acc)) (mend τ1 τe vl) S else .no) (Post B stk vstk σ Q) E := k
  split at k
  · rename_i hp
    have h1 : StR B F1 ρ1 ((e :: stk) ++ τ1) ((some v :: vstk) ++ σ) S1 H1 C1 := h1
    have hl1 : (e :: stk).length = (some v :: vstk).length := by simp [hl]
    have hr := h1.re
    have hn : StR (B.re F1 ρ1 ((e :: stk) ++ τ1) ((some v :: vstk) ++ σ) S1 H1 C1) F1 ρ1 ((e :: stk) ++ τ1) ((some v :: vstk) ++ σ) S1 (upd H1 Dd (.lst [])) C1 := hr.new hD
    have hw := hn.wipe hl1 vl
    have dw : Hid F1 ((e :: stk) ++ wipeT τ1 vl) ((some v :: vstk) ++ wipe σ vl) (upd H1 Dd (.lst [])) C1 Dd [] := fresh_hid (hr.wipe hl1 vl) hD
    refine sim_lcX (B := B.re F1 ρ1 ((e :: stk) ++ τ1) ((some v :: vstk) ++ σ) S1 H1 C1) (E := fun Cn _ S => E Cn (valT τ1) S) (W' := WB Wx σ) (Q := fun H => Q (.ref Dd) H) (stk := e :: stk) (vstk := some v :: vstk) hK (fun F ρ gs gv S H C h0 => imp_blk hl1 iw h1 h0)
      (fun B' hB im => st σ B' _ hB im) (fun B' hB im => sim_keep (se σ B' _ hB im)) hts hl1 (fun F ρ τ σ S H C q => y _ F ρ (stk ++ τ) (vstk ++ σ) S H C rfl q) (fun i w e => ?_) (.inr hD) (fun F2 ρ2 τ2 S2 H2 C2 acc vs h2 d2 r2 k2 => ?_) hw dw (wipeT_pk hp.2) (RP.exT k)
    · have := fresh_pk hr hD i w (by rw [List.getElem?_append_left (List.getElem?_eq_some_iff.mp e).1]; exact e)
      intro z
      exact this (by rw [List.getElem?_append_left (List.getElem?_eq_some_iff.mp z).1]; exact z)
    · have h2' : StR (B.re F1 ρ1 ((e :: stk) ++ τ1) ((some v :: vstk) ++ σ) S1 H1 C1) F2 ρ2 (stk ++ τ2) (vstk ++ wipe σ vl) S2 H2 C2 := StR.pop h2
      have d2' : Hid F2 (stk ++ τ2) (vstk ++ wipe σ vl) H2 C2 Dd vs := ⟨d2.at_, d2.nF, d2.nC, fun i m e1 e2 => d2.nO (i + 1) m e1 e2⟩
      have h3 := h2'.hidPush d2' (.inr hD) r2
      have h1' : StR B F1 ρ1 (stk ++ τ1) (vstk ++ σ) S1 H1 C1 := StR.pop h1
      have h4 := StR.mend (stk' := .own (.lst acc) :: stk) (vstk' := some (.ref Dd) :: vstk) hl (by simp [hl]) h1' h3 (h1.le_re h2) hp.1 wipe_wipe
      exact k2 (.ref Dd) H2 F2 ρ2 C2 (h1.unre h4)
  · exact k.elim
theorem CxOk.blkX {X : Cx} {scope : Scope} {W' : WX} {xe : Value → Shared → Prop} (c : CxOk D Wx X) (hk : scope.kind = .function) (s : Shared) (H : Hp) (C : Addr) (cl : List (Str × Addr)) (fp : List Addr) (tk : Takes ((X.blk s H scope (compEnvC scope cl C X.env) fp).wish xe) W') (pa : PassesOwn (model X.prog X.w) X.A (compEnvC scope cl C X.env) xe) :
    CxOk (D.blk scope) W' ((X.blk s H scope (compEnvC scope cl C X.env) fp).wish xe) where
  K := c.K
  prog := c.prog
  w := c.w
  mg := c.mg
  base := c.base
  N := c.N
  sc := by
    show relabel scope X.env = relS scope D.sc
    rw [← c.sc] <;> rfl
  kind := hk
  un := c.un
  room := c.room
  hot := c.hot
  fn := fun x h => h
  tk := tk
  pass := pa
  stk := fun h => by cases h
theorem ve_lcX {elt tg iter : Expr} {ifs : List Expr} {scope : Scope} {pos : Pos} {di : DI} {t : Tg} {tt : DT} {de : DE} (o : DOk D) (hc : D.calm = true) (htop : D.top = true) (hi : VI D Wx tg iter di) (hs : lcC D scope t = true) (ht : tgOf (D.blk scope) tg = some t)
    (hT : ∀ W', VTs (D.blk scope) W' ifs tt) (he : ∀ W', VE (D.blk scope) W' elt de) (hf : ∀ env x, foldedSetIterable iter env x = pure x) : VE D Wx (.ListComp elt [⟨tg, iter, ifs, 0⟩] scope pos) (dLcX di t ((ownOf D.N scope).map (·.2)) tt de) := by
  obtain ⟨wi, pi, si⟩ := hi
  unfold lcC at hs
  rw [Bool.and_eq_true] at hs
  have ok := blkOk_by hs.1
  refine ⟨fun σ H Q => tLc wi (tTg D.K t) ((hT (WB Wx σ)).choose) ((he (WB Wx σ)).choose) ((ownOf D.N scope).map (·.2)) σ H Q, fun X c => ?_, fun B E hK iw => sim_dLcX hK iw (si B E hK iw) (g1 := fun σ => (hT (WB Wx σ)).choose) (te := fun σ => (he (WB Wx σ)).choose) (fun σ B' E' hB im => (hT (WB Wx σ)).choose_spec.2 B' E' hB im) (fun σ B' E' hB im => (he (WB Wx σ)).choose_spec.2 B' E' hB im) fun i hi => ?_⟩
  · have ok' : BlkOk X.N X.env.scope scope (ownOf D.N scope) := by rw [c.N, c.sc]; exact ok
    obtain ⟨k1, k2, k3⟩ := c.stk htop
    exact pe_lcX (c.hot hc) (by rw [c.N]; exact o.nd) (pi X c) ok' k1 k2 c.tk (fun σ s H C cl fp xe tk pa => pg_tg (D := D.blk scope) o.blk hc (c.blkX ok.kind s H C cl fp tk pa) ht) (fun σ s H C cl fp xe tk pa => (hT (WB Wx σ)).choose_spec.1 _ (c.blkX ok.kind s H C cl fp tk pa)) (fun σ s H C cl fp xe tk pa => (he (WB Wx σ)).choose_spec.1 _ (c.blkX ok.kind s H C cl fp tk pa)) (hf _)
  · have := List.all_eq_true.mp hs.2 i hi
    simpa using this
end
end VM

set_option Elab.async false
set_option linter.all false
/-! VM15: the text read by values; it is what the model does. -/
namespace VM
open PySem PySem.Spec L2
open PyProof.Rows hiding St

def nameI (D : DC) (x : Str) : Option Nat := match D.N.findIdx? (· == x) with
  | some i => if D.N[i]? = some x then some i else none
  | none => none
theorem nameI_some {D : DC} {x : Str} {i : Nat} (h : nameI D x = some i) : D.N[i]? = some x := by
  unfold nameI at h
  split at h
  · split at h
    · rename_i e
      cases h
      exact e
    · cases h
  · cases h
/-- functions of what is built in -/
inductive BI where
  | fn (id : String) (f : List W → Option Sl)
  | ty (T : String) (f : List W → Option Sl)
def BI.f : BI → List W → Option Sl
  | .fn _ f => f
  | .ty _ f => f
def bltn2 (x : Str) (n : Nat) : Option BI :=
  if x = "int" then some (.ty "int" (f1 fInt))
  else if x = "list" then some (.ty "list" (f1 fList))
  else if x = "tuple" then some (.ty "tuple" (f1 fTuple))
  else if x = "max" ∧ n = 1 then some (.fn "max" (f1 fMaxL))
  else if x = "min" ∧ n = 1 then some (.fn "min" (f1 fMinL))
  else none
def bltn (x : Str) (n : Nat) : Option BI :=
  if x = "len" then some (.fn "len" (f1 fLen))
  else if x = "sum" then some (.fn "sum" (f1 fSum))
  else if x = "all" then some (.fn "all" (f1 fAll))
  else if x = "any" then some (.fn "any" (f1 fAny))
  else if x = "sorted" then some (.fn "sorted" (f1 fSortA))
  else if x = "divmod" then some (.fn "divmod" (f2 fDivmod))
  else if x = "max" ∧ n = 2 then some (.fn "max" (f2 fMax2))
  else if x = "min" ∧ n = 2 then some (.fn "min" (f2 fMin2))
  else bltn2 x n
/-- methods that only read -/
structure PM where
  T : String
  f : PF
def pmeth (x : Str) (n : Nat) : Option PM :=
  if x = "count" ∧ n = 1 then some ⟨"list", pCount⟩
  else if x = "split" ∧ n = 1 then some ⟨"str", pSplit⟩
  else if x = "join" ∧ n = 1 then some ⟨"str", pJoin⟩
  else if x = "get" ∧ n = 2 then some ⟨"dict", pGet2⟩
  else none
/-- methods that change an owned list -/
def mmeth (x : Str) (n : Nat) : Option MF :=
  if x = "append" ∧ n = 1 then some mApp
  else if x = "extend" ∧ n = 1 then some mExt
  else if x = "pop" ∧ n = 0 then some mPop
  else if x = "reverse" ∧ n = 0 then some mRev
  else if x = "clear" ∧ n = 0 then some mClr
  else none
def notSet : Expr → Bool
  | .Set .. => false
  | _ => true
def isRev : Expr → Bool
  | .Slice none none (some (.UnaryOp .USub (.Constant (.int 1) _ _) _)) _ => true
  | _ => false

section
variable (rE : DC → Expr → DE) (rT : DC → Expr → DT)
/-- read where it stands -/
def stepP (D : DC) : Expr → DE
  | .Name x p => if plainName x && visC D x then (match nameI D x with
    | some i => dPeek i
    | none => dNo) else rE D (.Name x p)
  | e => rE D e
def argsP (D : DC) : List Expr → DA
  | [] => dNil
  | e :: es => dCons (stepP rE D e) (argsP D es)
def argsK (D : DC) : List Expr → DA
  | [] => dNil
  | e :: es => dCons (dKeep (rE D e)) (argsK D es)
def andV (D : DC) : List Expr → DE
  | [] => dNo
  | [a] => rE D a
  | a :: b :: r => dAndV (rE D a) (andV D (b :: r))
def orV (D : DC) : List Expr → DE
  | [] => dNo
  | [a] => rE D a
  | a :: b :: r => dOrV (rE D a) (orV D (b :: r))
def andT (D : DC) : List Expr → DT
  | [] => fun _ _ => .no
  | [a] => rT D a
  | a :: b :: r => dAndT (rT D a) (andT D (b :: r))
def orT (D : DC) : List Expr → DT
  | [] => fun _ _ => .no
  | [a] => rT D a
  | a :: b :: r => dOrT (rT D a) (orT D (b :: r))
/-- what is walked -/
def stepI (D : DC) : Expr → DI
  | .Call (.Name x p) [a] [] pos => if x = "range" then (if D.sc.names.lookup x == some .globalImplicit && D.free.contains x && notStar a then iRange1 (argsK rE D [a]) else fun _ _ => .no) else iSeq (rE D (.Call (.Name x p) [a] [] pos))
  | .Call (.Name x p) [a, b] [] pos => if x = "range" then (if D.sc.names.lookup x == some .globalImplicit && D.free.contains x && notStar a && notStar b then iRange2 (argsK rE D [a, b]) else fun _ _ => .no) else iSeq (rE D (.Call (.Name x p) [a, b] [] pos))
  | .Subscript a b p => iSeq (dFz (rE D (.Subscript a b p)))
  | .Name x p => if D.bx.contains x then iSeq (dFz (rE D (.Name x p))) else iSeq (rE D (.Name x p))
  | e => if notSet e then iSeq (rE D e) else fun _ _ => .no
/-- .. in a comprehension: an own list stands as it is -/
def stepIP (D : DC) (e : Expr) : DI := match e with
  | .Name x p => if plainName x && visC D x && !D.bx.contains x then (match nameI D x with
    | some i => iSeqP (dPeek i)
    | none => fun _ _ => .no) else stepI rE D (.Name x p)
  | e => stepI rE D e
def stepIfs (D : DC) : List Expr → DT
  | [] => dYes
  | [e] => rT D e
  | _ => fun _ _ => .no
def stepLc (D : DC) (elt tg iter : Expr) (ifs : List Expr) (scope : Scope) : DE := match tgOf (D.blk scope) tg with
  | some t => if D.calm && lcC D scope t && decide (ifs.length ≤ 1) && notSet iter then (if (D.bx.contains "ex" && D.top) = true then dLcX (stepIP rE D iter) t ((ownOf D.N scope).map (·.2)) (stepIfs rT (D.blk scope) ifs) (rE (D.blk scope) elt) else dLc (stepIP rE D iter) t ((ownOf D.N scope).map (·.2)) (stepIfs rT (D.blk scope) ifs) (rE (D.blk scope) elt)) else dNo
  | none => dNo
def tyNames (D : DC) : List Expr → Option (List TyN)
  | [] => some []
  | .Name c _ :: r => if plainName c && D.sc.names.lookup c == some .globalImplicit then (match D.cvs.find? fun q => q.1 == c with
    | some q => (match tyNames D r with
      | some ts => some (q.2 :: ts)
      | none => none)
    | none => none) else none
  | _ :: _ => none
def setForm (D : DC) (x : Str) : List Expr → Option DE
  | [.Call (.Name y _) [e] [] _] => if y = "set" ∧ (D.sc.names.lookup y == some .globalImplicit && D.free.contains y && notStar e) = true then (if x = "sorted" then some (dSortSet (stepP rE D e)) else if x = "len" then some (dLenSet (stepP rE D e)) else none) else if (y = "range" ∧ x = "list") ∧ (D.sc.names.lookup y == some .globalImplicit && D.free.contains y && notStar e) = true then some (dRngL (rE D e)) else none
  | [e] => if x = "sorted" ∧ D.bx.contains "sorted" = true ∧ notStar e = true then some (dSortH (stepP rE D e)) else none
  | _ => none
def stepCall (D : DC) (x : Str) (es : List Expr) : DE := if plainName x && D.sc.names.lookup x == some .globalImplicit && es.all notStar then (match es with
  | [] => (match D.fns x with
    | some f => if D.calm then dCallF f.1 dNil else dNo
    | none => (match D.mkr x with
      | some f => if D.calm then dCallF f.1 dNil else dNo
      | none => dNo))
  | e :: es => if x = "isinstance" then (if D.free.contains x then (match es with
      | [.Name c _] => if plainName c && D.sc.names.lookup c == some .globalImplicit then (match D.cvs.find? fun q => q.1 == c with
        | some q => dIsi D.ecs D.isT q.2 (stepP rE D e)
        | none => dNo) else dNo
      | [.Tuple cs _ _] => (match tyNames D cs with
        | some ts => if ts.length ≤ 100 then dIsiT D.ecs D.isT ts (stepP rE D e) else dNo
        | none => dNo)
      | _ => dNo) else dNo)
    else match D.fns x with
      | some f => if D.calm then dCallF f.1 (argsK rE D (e :: es)) else dNo
      | none => (match D.mkr x with
      | some f => if D.calm then dCallF f.1 (argsK rE D (e :: es)) else dNo
      | none => if D.free.contains x && D.calm then (match setForm rE D x (e :: es) with
        | some d => d
        | none => (match bltn x (es.length + 1) with
          | some b => dCall b.f (argsP rE D (e :: es))
          | none => dNo)) else dNo)) else dNo
/-- .get((..), c) -/
def getT (D : DC) (m : Str) : List Expr → Option (List Expr × W)
  | [.Tuple es _ _, .Constant c _ _] => if m = "get" ∧ es.all notStar = true then (match cW c with
    | some w => if w.isLD = false then some (es, w) else none
    | none => none) else none
  | _ => none
def stepMeth (D : DC) (o : Expr) (m : Str) (apos cpos : Pos) (es : List Expr) : DE := match getT D m es with
  | some (ks, w) => if plainBase o && callC apos cpos es then dGetT (stepP rE D o) (argsK rE D ks) w else dNo
  | none => if plainBase o && callC apos cpos es then (match pmeth m es.length with
  | some p => dMeth p.T p.f (stepP rE D o) (argsP rE D es)
  | none => if D.calm then dMethO (fun Cl => D.mth Cl m) m (stepP rE D o) (argsK rE D es) else dNo) else dNo
def stepE (D : DC) : Expr → DE
  | .Constant c _ _ => (match cW c with
    | some w => dConst w
    | none => dNo)
  | .Name x _ => if plainName x then (if visC D x then (match nameI D x with
      | some i => dVar i
      | none => dNo)
    else if D.sc.names.lookup x == some .globalImplicit then (match D.gls x with
      | some w => dConst w
      | none => dNo) else dNo) else dNo
  | .BinOp a op b _ => dBin (opBin op) (stepP rE D a) (stepP rE D b)
  | .Compare a [op] [b] _ => if behindInMarks op b = false then (if D.bx.contains "==" then dCmpH op (stepP rE D a) (stepP rE D b) else dCmp (opCmp op) (stepP rE D a) (stepP rE D b)) else dNo
  | .Compare a [op, op'] [b, c] _ => if lastMarks [op, op'] [b, c] = false then dChain (opCmp op) (opCmp op') (stepP rE D a) (stepP rE D b) (stepP rE D c) else dNo
  | .BoolOp .And es _ => andV rE D es
  | .BoolOp .Or es _ => orV rE D es
  | .UnaryOp .Not a _ => dNotV (rE D a)
  | .UnaryOp .USub a _ => dNeg (rE D a)
  | .IfExp c a b _ => dIf (rT D c) (rE D a) (rE D b)
  | .Tuple es _ _ => if es.all notStar then dTup (argsK rE D es) else dNo
  | .Dict [] [] _ => dDicN
  | .Dict [some (.Tuple es _ _)] [.Constant c _ _] _ => (match txtsOf es, cW c with
    | some ks, some w => if ks.length ≤ 100 then dDicT ks w else dNo
    | _, _ => dNo)
  | .Dict keys vals _ => (match dcKeys keys, dcVals vals with
    | some ks, some ws => if keys.length = vals.length ∧ keys.length ≤ 15 ∧ 0 < keys.length ∧ ks.Nodup ∧ keys.length = ks.length ∧ keys.all (·.isSome) = true then dDicC ks ws else dNo
    | _, _ => dNo)
  | .List es _ => if es.all notStar then dLst (argsK rE D es) else dNo
  | .Subscript e (.Slice none none (some (.UnaryOp .USub (.Constant (.int 1) _ _) _)) _) _ => dRevL (stepP rE D e)
  | .Subscript e (.Slice lo hi none _) _ => dSlice (stepP rE D e) (lo.map (rE D)) (hi.map (rE D))
  | .Subscript a b _ => if plainIx b then dOp2 fIx (stepP rE D a) (stepP rE D b) else dNo
  | .ListComp elt [⟨tg, iter, ifs, 0⟩] scope _ => stepLc rE rT D elt tg iter ifs scope
  | .Call (.Name x _) es [] _ => stepCall rE D x es
  | .Call (.Attribute o m apos) es [] cpos => stepMeth rE D o m apos cpos es
  | .Attribute a f _ => if plainBase a then dFld D.fld f (stepP rE D a) else dNo
  | _ => dNo
def stepT (D : DC) : Expr → DT
  | .Compare a [op] [b] _ => if behindInMarks op b = false then (if D.bx.contains "==" then dCmpHT op (stepP rE D a) (stepP rE D b) else dCmpT (opCmp op) (stepP rE D a) (stepP rE D b)) else fun _ _ => .no
  | .Compare a [op, op'] [b, c] _ => if lastMarks [op, op'] [b, c] = false then dTest (dChain (opCmp op) (opCmp op') (stepP rE D a) (stepP rE D b) (stepP rE D c)) else fun _ _ => .no
  | .UnaryOp .Not a _ => dNotT (rT D a)
  | .BoolOp .And es _ => andT rT D es
  | .BoolOp .Or es _ => orT rT D es
  | .Name x p => dTest (rE D (.Name x p))
  | .Constant c k p => dTest (rE D (.Constant c k p))
  | .Call f as ks p => dTest (rE D (.Call f as ks p))
  | .Subscript a b p => dTest (rE D (.Subscript a b p))
  | .Attribute a b p => dTest (rE D (.Attribute a b p))
  | _ => fun _ _ => .no
end
/-- expressions and tests, with fuel -/
def den : Nat → (DC → Expr → DE) × (DC → Expr → DT)
  | 0 => (fun _ _ => dNo, fun _ _ _ _ => .no)
  | n + 1 => (stepE (den n).1 (den n).2, stepT (den n).1 (den n).2)
end VM

set_option Elab.async false
set_option linter.all false
/-! VM16: the reading by values is sound. -/
namespace VM
open PySem PySem.Spec L2
open PyProof.Rows hiding St

section
variable {D : DC} {Wx : WX}
def tNo : DT := fun _ _ => .no
theorem vt_no {e : Expr} : VT D Wx e (fun _ _ => .no) := ⟨fun _ _ _ => False, fun _ _ => ⟨fun _ _ _ _ _ _ h => h.elim⟩, fun _ _ _ _ _ _ _ _ _ _ _ _ _ _ _ _ h => h⟩
theorem vw_no {e : Expr} : VW D Wx e (fun _ _ => .no) := ⟨fun _ _ _ => False, fun _ _ => ⟨fun _ _ _ _ _ _ _ h => h.elim⟩, fun _ _ _ _ _ _ _ _ _ _ _ _ _ _ _ _ h => h⟩
theorem vi_no {tg e : Expr} : VI D Wx tg e (fun _ _ => .no) := ⟨fun _ _ _ => False, fun _ _ => ⟨fun _ _ _ _ _ _ h => h.elim⟩, fun _ _ _ _ _ _ _ _ _ _ _ _ _ _ _ _ h => h⟩
theorem vts_no {es : List Expr} : VTs D Wx es (fun _ _ => .no) := ⟨fun _ _ _ => False, fun _ _ => ⟨fun _ _ _ _ _ _ h => h.elim⟩, fun _ _ _ _ _ _ _ _ _ _ _ _ _ _ _ _ h => h⟩
theorem notSet_of {e : Expr} (h : notSet e = true) (env : Env) (x : Value) : foldedSetIterable e env x = pure x := by
  cases e <;> first | rfl | cases h
theorem cvs_of {l : List (Str × TyN)} {c : Str} {q : Str × TyN} (h : (l.find? fun q => q.1 == c) = some q) : (c, q.2) ∈ l := by
  have h2 := List.find?_some h
  have h3 := List.mem_of_find?_eq_some h
  have : q.1 = c := by simpa using h2
  rw [← this]
  exact h3
theorem free_of (o : DOk D) {x : Str} (h : D.free.contains x = true) : D.mg x = none := o.free x (by simpa using h)
end
def BIok (D : DC) (Wx : WX) (x : Str) : BI → Prop
  | .fn id f => ∃ r, (∀ X, CxOk D Wx X → CallR X (.builtin id) r) ∧ SimC D.K f r ∧ bootBuiltins x = some (.builtin id)
  | .ty T f => ∃ r, (∀ X, CxOk D Wx X → CallR X (.type T) r) ∧ SimC D.K f r ∧ bootBuiltins x = some (.type T)
theorem bltn2_ok {D : DC} {Wx : WX} {x : Str} {n : Nat} {b : BI} (hot : D.calm = true) (h : bltn2 x n = some b) : BIok D Wx x b := by
  unfold bltn2 at h
  split at h
  · rename_i e; subst e; cases h
    exact ⟨_, fun X c => call_int1, sim_int, boot_int⟩
  split at h
  · rename_i e; subst e; cases h
    exact ⟨_, fun X c => by rw [← c.K]; exact call_list_of, sim_list, boot_list⟩
  split at h
  · rename_i e; subst e; cases h
    exact ⟨_, fun X c => by rw [← c.K]; exact call_tuple_of, sim_tuple, boot_tuple⟩
  split at h
  · rename_i e; obtain ⟨e, _⟩ := e; subst e; cases h
    exact ⟨rMax D.K, fun X c => by rw [← c.K]; exact cr_max (c.hot hot), sim_maxL, boot_max⟩
  split at h
  · rename_i e; obtain ⟨e, _⟩ := e; subst e; cases h
    exact ⟨rMin D.K, fun X c => by rw [← c.K]; exact cr_min (c.hot hot), sim_minL, boot_min⟩
  · cases h
theorem bltn_ok {D : DC} {Wx : WX} {x : Str} {n : Nat} {b : BI} (hot : D.calm = true) (h : bltn x n = some b) : BIok D Wx x b := by
  unfold bltn at h
  split at h
  · rename_i e; subst e; cases h
    exact ⟨rLenA D.K, fun X c => by rw [← c.K]; exact call_lenA, sim_len, boot_len⟩
  split at h
  · rename_i e; subst e; cases h
    exact ⟨rSum D.K, fun X c => by rw [← c.K]; exact cr_sum (c.hot hot), sim_sum, boot_sum⟩
  split at h
  · rename_i e; subst e; cases h
    exact ⟨rAll D.K, fun X c => by rw [← c.K]; exact cr_all (c.hot hot), sim_all, boot_all⟩
  split at h
  · rename_i e; subst e; cases h
    exact ⟨rAny D.K, fun X c => by rw [← c.K]; exact cr_any (c.hot hot), sim_any, boot_any⟩
  split at h
  · rename_i e; subst e; cases h
    exact ⟨_, fun X c => by rw [← c.K]; exact cr_sortedI.or ((cr_sortT c.un).or (cr_sortD c.un)), sim_sortA, boot_sorted⟩
  split at h
  · rename_i e; subst e; cases h
    exact ⟨_, fun X c => call_divmod, sim_divmod, boot_divmod⟩
  split at h
  · rename_i e; obtain ⟨e, _⟩ := e; subst e; cases h
    exact ⟨_, fun X c => call_max2 (c.hot hot), sim_max2, boot_max⟩
  split at h
  · rename_i e; obtain ⟨e, _⟩ := e; subst e; cases h
    exact ⟨_, fun X c => call_min2 (c.hot hot), sim_min2, boot_min⟩
  · exact bltn2_ok hot h
structure Snd (rE : DC → Expr → DE) (rT : DC → Expr → DT) : Prop where
  e : ∀ D Wx, DOk D → ∀ e, VE D Wx e (rE D e)
  t : ∀ D Wx, DOk D → ∀ e, VT D Wx e (rT D e)
section
variable {rE : DC → Expr → DE} {rT : DC → Expr → DT} (s : Snd rE rT) {D : DC} {Wx : WX} (o : DOk D)
include s o
theorem snd_P (e : Expr) : VE D Wx e (stepP rE D e) := by
  unfold stepP
  split
  · rename_i x p
    split
    · rename_i h
      rw [Bool.and_eq_true] at h
      split
      · rename_i i hi
        exact ve_peek (nameI_some hi) h.2 h.1
      · exact ve_no
    · exact s.e D Wx o _
  · exact s.e D Wx o _
theorem snd_argsP : ∀ es : List Expr, (es.all notStar) = true → VA D Wx es (argsP rE D es)
  | [], _ => va_nil
  | e :: es, h => by
    rw [List.all_cons, Bool.and_eq_true] at h
    exact va_cons h.1 (snd_P s o e) (snd_argsP es h.2)
theorem snd_argsK : ∀ es : List Expr, (es.all notStar) = true → VA D Wx es (argsK rE D es)
  | [], _ => va_nil
  | e :: es, h => by
    rw [List.all_cons, Bool.and_eq_true] at h
    exact va_cons h.1 (ve_keep (s.e D Wx o e)) (snd_argsK es h.2)
theorem snd_andV {pos : Pos} : ∀ es : List Expr, VE D Wx (.BoolOp .And es pos) (andV rE D es)
  | [] => ve_no
  | [a] => ve_one (s.e D Wx o a)
  | a :: b :: r => ve_and (s.e D Wx o a) (snd_andV (b :: r))
theorem snd_orV {pos : Pos} : ∀ es : List Expr, VE D Wx (.BoolOp .Or es pos) (orV rE D es)
  | [] => ve_no
  | [a] => ve_one (s.e D Wx o a)
  | a :: b :: r => ve_or (s.e D Wx o a) (snd_orV (b :: r))
theorem snd_andT {pos : Pos} : ∀ es : List Expr, VW D Wx (.BoolOp .And es pos) (andT rT D es)
  | [] => vw_no
  | [a] => vw_and1 (s.t D Wx o a)
  | a :: b :: r => vw_and (s.t D Wx o a) (snd_andT (b :: r))
theorem snd_orT {pos : Pos} : ∀ es : List Expr, VW D Wx (.BoolOp .Or es pos) (orT rT D es)
  | [] => vw_no
  | [a] => vw_or1 (s.t D Wx o a)
  | a :: b :: r => vw_or (s.t D Wx o a) (snd_orT (b :: r))
theorem snd_O : ∀ e : Option Expr, VO D Wx e (e.map (rE D))
  | none => vo_none
  | some e => vo_some (s.e D Wx o e)
theorem snd_seq {tg e : Expr} : VI D Wx tg e (iSeq (rE D e)) := vi_seq (s.e D Wx o e)
theorem snd_I (tg e : Expr) : VI D Wx tg e (stepI rE D e) := by
  unfold stepI
  split
  · split
    · rename_i hx
      subst hx
      split
      · rename_i h
        rw [Bool.and_eq_true, Bool.and_eq_true] at h
        exact vi_range1 (by simpa using h.1.1) (free_of o h.1.2) (snd_argsK s o _ (by simp [h.2])) h.2
      · exact vi_no
    · exact snd_seq s o
  · split
    · rename_i hx
      subst hx
      split
      · rename_i h
        rw [Bool.and_eq_true, Bool.and_eq_true, Bool.and_eq_true] at h
        exact vi_range2 (by simpa using h.1.1.1) (free_of o h.1.1.2) (snd_argsK s o _ (by simp [h.1.2, h.2])) h.1.2 h.2
      · exact vi_no
    · exact snd_seq s o
  · exact vi_seq (ve_fz (s.e D Wx o _))
  · split
    · exact vi_seq (ve_fz (s.e D Wx o _))
    · exact snd_seq s o
  · split
    · exact snd_seq s o
    · exact vi_no
theorem snd_IP (tg e : Expr) : VI D Wx tg e (stepIP rE D e) := by
  unfold stepIP
  split
  · split
    · rename_i h
      rw [Bool.and_eq_true, Bool.and_eq_true] at h
      split
      · rename_i i hi
        exact vi_seqP (ve_peek (nameI_some hi) h.1.2 h.1.1)
      · exact vi_no
    · exact snd_I s o tg _
  · exact snd_I s o tg _
theorem snd_ifs : ∀ es : List Expr, VTs D Wx es (stepIfs rT D es)
  | [] => vts_nil
  | [e] => vts_one (s.t D Wx o e)
  | _ :: _ :: _ => vts_no
theorem snd_lc {elt tg iter : Expr} {ifs : List Expr} {scope : Scope} {pos : Pos} : VE D Wx (.ListComp elt [⟨tg, iter, ifs, 0⟩] scope pos) (stepLc rE rT D elt tg iter ifs scope) := by
  unfold stepLc
  split
  · rename_i t ht
    split
    · rename_i h
      rw [Bool.and_eq_true, Bool.and_eq_true, Bool.and_eq_true] at h
      split
      · rename_i hx
        rw [Bool.and_eq_true] at hx
        exact ve_lcX o h.1.1.1 hx.2 (snd_IP s o tg iter) h.1.1.2 ht (fun W' => snd_ifs s o.blk ifs) (fun W' => s.e _ _ o.blk elt) (notSet_of h.2)
      · exact ve_lc o h.1.1.1 (snd_IP s o tg iter) h.1.1.2 ht (snd_ifs s o.blk ifs) (s.e _ _ o.blk elt) (notSet_of h.2)
    · exact ve_no
  · exact ve_no
theorem snd_tyN : ∀ {cs : List Expr} {ts : List TyN}, tyNames D cs = some ts → PySem.W.EachIs (VN D) cs ts
  | [], ts, h => by cases h; exact .nil
  | c :: r, ts, h => by
    unfold tyNames at h
    split at h
    · rename_i e; cases e
    · rename_i c p r' e
      cases e
      split at h
      · rename_i hc
        rw [Bool.and_eq_true] at hc
        split at h
        · rename_i q hq
          split at h
          · rename_i ts' ht
            cases h
            exact .cons ⟨c, p, rfl, cvs_of hq, by simpa using hc.2, hc.1⟩ (snd_tyN ht)
          · cases h
        · cases h
      · cases h
    · cases h
theorem snd_setForm {x : Str} {p pos : Pos} {es : List Expr} {d : DE} (hc : D.calm = true) (hg : D.sc.names.lookup x = some .globalImplicit) (hf : D.mg x = none) (h : setForm rE D x es = some d) : VE D Wx (.Call (.Name x p) es [] pos) d := by
  unfold setForm at h
  split at h
  · rename_i y p2 e pos2
    split at h
    · rename_i c
      obtain ⟨hy, c⟩ := c
      rw [Bool.and_eq_true, Bool.and_eq_true] at c
      obtain ⟨⟨c1, c2⟩, c3⟩ := c
      subst hy
      split at h
      · rename_i hx
        subst hx
        cases h
        exact ve_sortSet hc hg hf (by simpa using c1) (free_of o c2) (snd_P s o e) c3
      · split at h
        · rename_i hx
          subst hx
          cases h
          exact ve_lenSet hc hg hf (by simpa using c1) (free_of o c2) (snd_P s o e) c3
        · cases h
    · split at h
      · rename_i c
        obtain ⟨⟨hy, hx⟩, c⟩ := c
        rw [Bool.and_eq_true, Bool.and_eq_true] at c
        obtain ⟨⟨c1, c2⟩, c3⟩ := c
        subst hy
        subst hx
        cases h
        exact ve_rngL hc hg hf (by simpa using c1) (free_of o c2) (s.e D Wx o e) c3
      · cases h
  · rename_i e _
    split at h
    · rename_i c
      obtain ⟨hx, _, c3⟩ := c
      subst hx
      cases h
      exact ve_sortH hc hg hf (snd_P s o e) c3
    · cases h
  · cases h
theorem snd_call {x : Str} {p pos : Pos} {es : List Expr} : VE D Wx (.Call (.Name x p) es [] pos) (stepCall rE D x es) := by
  unfold stepCall
  split
  · rename_i h
    rw [Bool.and_eq_true, Bool.and_eq_true] at h
    obtain ⟨⟨h1, h2⟩, h3⟩ := h
    have h2 : D.sc.names.lookup x = some .globalImplicit := by simpa using h2
    split
    · split
      · rename_i f hf
        split
        · rename_i hc
          exact ve_callF0 o hc hf h2 (plain_dbg h1)
        · exact ve_no
      · split
        · rename_i f hf
          split
          · rename_i hc
            exact ve_new0 o hc hf h2 (plain_dbg h1)
          · exact ve_no
        · exact ve_no
    · rename_i e es
      have h3' := h3
      rw [List.all_cons, Bool.and_eq_true] at h3'
      split
      · rename_i hx
        subst hx
        split
        · rename_i hf
          split
          · rename_i c p2
            split
            · rename_i hc
              rw [Bool.and_eq_true] at hc
              split
              · rename_i q hq
                exact ve_isi (p1 := p) o h2 (free_of o hf) (cvs_of hq) (by simpa using hc.2) hc.1 (snd_P s o e) h3'.1
              · exact ve_no
            · exact ve_no
          · rename_i cs kk p2
            split
            · rename_i ts hts
              split
              · rename_i few
                exact ve_isiT (p := p) o h2 (free_of o hf) (snd_tyN s o hts) few (snd_P s o e) h3'.1
              · exact ve_no
            · exact ve_no
          · exact ve_no
        · exact ve_no
      · split
        · rename_i f hf
          split
          · rename_i hc
            exact ve_callF o hc hf h2 (snd_argsK s o _ h3) (plain_dbg h1) h3
          · exact ve_no
        · split
          · rename_i f hf
            split
            · rename_i hc
              exact ve_new o hc hf h2 (snd_argsK s o _ h3) (plain_dbg h1) h3
            · exact ve_no
          split
          · rename_i hf
            rw [Bool.and_eq_true] at hf
            have hm := free_of o hf.1
            have a := snd_argsP (Wx := Wx) s o (e :: es) h3
            have dbg := plain_dbg h1
            have nm := plain_nm h1
            split
            · rename_i d hd
              exact snd_setForm s o hf.2 h2 hm hd
            split
            · rename_i b hb
              have q := bltn_ok (D := D) (Wx := Wx) hf.2 hb
              cases b with
              | fn id f =>
                obtain ⟨r, q1, q2, q3⟩ := q
                exact ve_callB q1 q2 h2 hm q3 a nm dbg h3
              | ty T f =>
                obtain ⟨r, q1, q2, q3⟩ := q
                exact ve_callTy q1 q2 h2 hm q3 a nm dbg h3
            · exact ve_no
          · exact ve_no
  · exact ve_no
omit s o in
theorem getT_some {m : Str} {es ks : List Expr} {w : W} (h : getT D m es = some (ks, w)) : ∃ n p c kd p2, es = [.Tuple ks n p, .Constant c kd p2] ∧ m = "get" ∧ ks.all notStar = true ∧ cW c = some w ∧ w.isLD = false := by
  unfold getT at h
  split at h
  · rename_i es n p c kd p2
    split at h
    · rename_i hm
      split at h
      · rename_i w' hw
        split at h
        · rename_i hl
          cases h
          exact ⟨_, _, _, _, _, rfl, hm.1, hm.2, hw, hl⟩
        · cases h
      · cases h
    · cases h
  · cases h
theorem snd_meth {ob : Expr} {m : Str} {apos cpos : Pos} {es : List Expr} : VE D Wx (.Call (.Attribute ob m apos) es [] cpos) (stepMeth rE D ob m apos cpos es) := by
  unfold stepMeth
  split
  · rename_i ks w hg
    split
    · rename_i h
      rw [Bool.and_eq_true] at h
      obtain ⟨n, p, c, kd, p2, rfl, hm, hk, hw, hl⟩ := getT_some hg
      exact ve_getT (snd_P s o ob) (snd_argsK s o _ hk) hw hm hl h.1 h.2
    · exact ve_no
  split
  · rename_i h
    rw [Bool.and_eq_true] at h
    split
    · rename_i p hp
      unfold pmeth at hp
      split at hp
      · rename_i e
        obtain ⟨e1, e2⟩ := e
        subst e1
        cases hp
        match es, e2 with
        | [e], _ =>
          exact ve_meth (r := rCountD D.K) sim_count PySem.F.plainAttrs_list PySem.F.slot_list_count PySem.F.type_list_count (fun X c => by rw [← c.K]; exact mt_countD c.un) (snd_P s o ob) (snd_argsP s o _ (by simp [(ns_of h.2).1])) h.1 h.2
      split at hp
      · rename_i e
        obtain ⟨e1, e2⟩ := e
        subst e1
        cases hp
        match es, e2 with
        | [e], _ =>
          exact ve_meth (r := rSplit) sim_split PySem.F.plainAttrs_str PySem.F.slot_str_split PySem.F.type_str_split (fun X c => mt_split) (snd_P s o ob) (snd_argsP s o _ (by simp [(ns_of h.2).1])) h.1 h.2
      split at hp
      · rename_i e
        obtain ⟨e1, e2⟩ := e
        subst e1
        cases hp
        match es, e2 with
        | [e], _ =>
          exact ve_meth (r := rJoin D.K) sim_join PySem.F.plainAttrs_str PySem.F.slot_str_join PySem.F.type_str_join (fun X c => by rw [← c.K]; exact mt_join) (snd_P s o ob) (snd_argsP s o _ (by simp [(ns_of h.2).1])) h.1 h.2
      split at hp
      · rename_i e
        obtain ⟨e1, e2⟩ := e
        subst e1
        cases hp
        match es, e2 with
        | [e, e'], _ =>
          exact ve_meth (r := rGet2) sim_get2 PySem.F.plainAttrs_dict PySem.F.slot_dict_get PySem.F.type_dict_get (fun X c => mt_get2 (by have := c.un; omega)) (snd_P s o ob) (snd_argsP s o _ (by have q := (ns_of h.2); simp [q.1]; simpa using q.2)) h.1 h.2
      · cases hp
    · split
      · rename_i hc
        cases es with
        | nil => exact ve_methO0 o hc (snd_P s o ob) h.1 h.2
        | cons e es => exact ve_methO o hc (snd_P s o ob) (snd_argsK s o _ (by simp [(ns_of h.2).1, (ns_of h.2).2])) h.1 h.2
      · exact ve_no
  · exact ve_no
end
theorem snd_step {rE : DC → Expr → DE} {rT : DC → Expr → DT} (s : Snd rE rT) : Snd (stepE rE rT) (stepT rE rT) := by
  refine ⟨fun D Wx o e => ?_, fun D Wx o e => ?_⟩
  · unfold stepE
    split
    · split
      · rename_i w hw; exact ve_const hw
      · exact ve_no
    · split
      · rename_i hp
        split
        · rename_i hv
          split
          · rename_i i hi; exact ve_name (nameI_some hi) hv hp
          · exact ve_no
        · split
          · rename_i hg
            split
            · rename_i w hw; exact ve_glob o (by simpa using hg) hw hp
            · exact ve_no
          · exact ve_no
      · exact ve_no
    · exact ve_bin (snd_P s o _) (snd_P s o _)
    · split
      · rename_i h
        split
        · exact ve_cmpH (snd_P s o _) (snd_P s o _) h
        · exact ve_cmp (snd_P s o _) (snd_P s o _) h
      · exact ve_no
    · split
      · rename_i h; exact ve_chain (snd_P s o _) (snd_P s o _) (snd_P s o _) h
      · exact ve_no
    · exact snd_andV s o _
    · exact snd_orV s o _
    · exact ve_not (s.e D Wx o _)
    · exact ve_neg (s.e D Wx o _)
    · exact ve_if (s.t D Wx o _) (s.e D Wx o _) (s.e D Wx o _)
    · split
      · rename_i h; exact ve_tup (snd_argsK s o _ h)
      · exact ve_no
    · exact ve_dicN
    · split
      · rename_i h1 h2
        split
        · rename_i h; exact ve_dicT h1 h h2
        · exact ve_no
      · exact ve_no
    · split
      · rename_i h1 h2
        split
        · rename_i h
          obtain ⟨q1, q2, q3, q4, q5, q6⟩ := h
          exact ve_dicC h1 h2 q1 (by intro z; rw [z] at q3; cases q3) q2 q4 q5 q6
        · exact ve_no
      · exact ve_no
    · split
      · rename_i h; exact ve_lst (snd_argsK s o _ h)
      · exact ve_no
    · exact ve_revL (snd_P s o _)
    · exact ve_slice (snd_P s o _) (snd_O s o _) (snd_O s o _)
    · split
      · rename_i h; exact ve_ix (snd_P s o _) (snd_P s o _) h
      · exact ve_no
    · exact snd_lc s o
    · exact snd_call s o
    · exact snd_meth s o
    · split
      · rename_i h; exact ve_fld o (snd_P s o _) h
      · exact ve_no
    · exact ve_no
  · unfold stepT
    split
    · split
      · rename_i h
        split
        · exact vt_cmpH (snd_P s o _) (snd_P s o _) h
        · exact vt_cmp (snd_P s o _) (snd_P s o _) h
      · exact vt_no
    · split
      · rename_i h; exact vt_chain (snd_P s o _) (snd_P s o _) (snd_P s o _) h
      · exact vt_no
    · exact vt_not (s.t D Wx o _)
    · exact (snd_andT s o _).vt
    · exact (snd_orT s o _).vt
    · exact vt_val (s.e D Wx o _) fun _ _ => rfl
    · exact vt_val (s.e D Wx o _) fun _ _ => rfl
    · exact vt_val (s.e D Wx o _) fun _ _ => rfl
    · exact vt_val (s.e D Wx o _) fun _ _ => rfl
    · exact vt_val (s.e D Wx o _) fun _ _ => rfl
    · exact vt_no
theorem snd_den : ∀ n, Snd (den n).1 (den n).2
  | 0 => ⟨fun _ _ _ _ => ve_no, fun _ _ _ _ => vt_no⟩
  | n + 1 => snd_step (snd_den n)
end VM

set_option Elab.async false
set_option linter.all false
/-! VM17: statements. -/
namespace VM
open PySem PySem.Spec L2
open PyProof.Rows hiding St

section
variable {D : DC} {Wx : WX}
theorem vs_no {st : Stmt} : VS D Wx st (fun _ _ => .no) := ⟨fun _ _ _ => False, fun _ _ => ⟨fun _ _ _ _ _ _ h => h.elim⟩, fun _ _ _ _ _ _ _ _ _ _ _ _ _ h => h⟩
theorem ve0_no {e : Expr} : VE0 D Wx e dNo := VE.ve0 ve_no
def notComp : Expr → Bool
  | .ListComp .. => false
  | .SetComp .. => false
  | .DictComp .. => false
  | _ => true
theorem sw_none {e : Expr} (h : notComp e = true) (t : Option Expr) (l : Nat) (env : Env) : swapsWith e t l env = pure false := by
  cases e <;> first | rfl | cases h
def isTup : Expr → Bool
  | .Tuple .. => true
  | .List .. => true
  | _ => false
theorem ss_none {tg e : Expr} (h : (isTup tg && isTup e) = false) (env : Env) : swappedStores [tg] e env = pure none := by
  cases tg <;> cases e <;> first | rfl | cases h
theorem sw_lc {elt : Expr} {gs : List Comprehension} {scope : Scope} {pos py : Pos} {y : Str} {l : Nat} {env : Env} (hs : env.scope = D.sc) (hk : env.scope.kind = .function) : swapsWith (.ListComp elt gs scope pos) (some (.Name y py)) l env = pure (swC D y py pos scope) := by
  have hb : env.blockKind = .function := by unfold Env.blockKind; rw [hk]; rfl
  have ky : env.kindOf y = D.sc.names.lookup y := by unfold Env.kindOf; rw [hs]
  unfold swapsWith swC
  simp only [hb, ky, Expr.pos]
  rfl
/-- what a name owns is handed on -/
def dRetV (i : Nat) : DS := fun τ S => match τ[i]? with
  | some (.val w) => .rt (.val w) τ S
  | some (.own m) => .rt (.own m) (τ.set i .no) S
  | _ => .no
theorem StR.move {B : Base} {F ρ gs gv S H C} {i : Nat} {m : MO} {a : Addr} (h : StR B F ρ gs gv S H C) (e1 : gs[i]? = some (.own m)) (e2 : gv[i]? = some (some (.ref a))) : StR B F ρ (.own m :: gs.set i .no) (some (.ref a) :: gv) S H C := by
  have hi : i < gs.length := (List.getElem?_eq_some_iff.mp e1).1
  have old : ∀ {j : Nat} {sl : Sl}, (gs.set i .no)[j]? = some sl → sl = .no ∨ (j ≠ i ∧ gs[j]? = some sl) := fun {j sl} e => by
    by_cases q : i = j
    · subst q
      rw [List.getElem?_set_self hi] at e
      exact .inl (Option.some.inj e).symm
    · rw [List.getElem?_set_ne q] at e
      exact .inr ⟨fun z => q z.symm, e⟩
  have oldO : ∀ {j : Nat} {m' : MO}, (gs.set i .no)[j]? = some (.own m') → j ≠ i ∧ gs[j]? = some (.own m') := fun {j m'} e => by
    rcases old e with q | q
    · cases q
    · exact q
  obtain ⟨a', ea, own⟩ := h.ent i _ _ e1 e2
  cases ea
  refine ⟨by simp [h.len], fun j sl v q1 q2 => ?_, fun j l m1 m2 b q1 q2 q3 q4 => ?_, fun j m1 b q1 q2 => ?_, fun j m1 b q1 q2 => ?_, fun j w b q1 q2 => ?_, h.cel, h.cnd, h.cF, h.cH, h.fT, h.keep, h.fF, h.fN, h.cN, fun j m1 b q1 q2 => ?_, h.rho, h.nx⟩
  · cases j with
    | zero => cases q1; cases q2; exact ⟨a, rfl, own⟩
    | succ j =>
      rcases old (show (gs.set i .no)[j]? = some sl from q1) with rfl | ⟨_, z⟩
      · trivial
      · exact h.ent j sl v z q2
  · cases j with
    | zero =>
      cases q2
      cases l with
      | zero => rfl
      | succ l =>
        obtain ⟨n1, z⟩ := oldO (show (gs.set i .no)[l]? = some (.own m2) from q3)
        exact (n1 (h.uniq l i m2 m a z q4 e1 e2)).elim
    | succ j =>
      obtain ⟨n0, z0⟩ := oldO (show (gs.set i .no)[j]? = some (.own m1) from q1)
      cases l with
      | zero => cases q4; exact (n0 (h.uniq j i m1 m a z0 q2 e1 e2)).elim
      | succ l =>
        obtain ⟨n1, z⟩ := oldO (show (gs.set i .no)[l]? = some (.own m2) from q3)
        rw [h.uniq j l m1 m2 b z0 q2 z q4]
  · cases j with
    | zero => cases q2; exact h.nF i m a e1 e2
    | succ j => exact h.nF j m1 b (oldO (show (gs.set i .no)[j]? = some (.own m1) from q1)).2 q2
  · cases j with
    | zero => cases q2; exact h.nC i m a e1 e2
    | succ j => exact h.nC j m1 b (oldO (show (gs.set i .no)[j]? = some (.own m1) from q1)).2 q2
  · cases j with
    | zero => cases q1
    | succ j =>
      rcases old (show (gs.set i .no)[j]? = some (.pk w) from q1) with z | ⟨_, z⟩
      · cases z
      · exact h.pC j w b z q2
  · cases j with
    | zero => cases q2; exact h.oN i m a e1 e2
    | succ j => exact h.oN j m1 b (oldO (show (gs.set i .no)[j]? = some (.own m1) from q1)).2 q2
theorem vs_retV {x : Str} {i : Nat} {p pos : Pos} (hi : D.N[i]? = some x) (hv : visC D x = true) (hp : plainName x = true) : VS D Wx (.Return (some (.Name x p)) pos) (dRetV i) := by
  refine ⟨_, fun X c => ps_ret (pe_nm c hi hv hp), fun B E hK iw F ρ τ σ S H C Dn h k => ?_⟩
  unfold dRetV at k
  cases e : τ[i]? with
  | none => rw [e] at k; exact k.elim
  | some sl =>
    rw [e] at k
    obtain ⟨v, e2, r⟩ := slot_val (stk := []) (vstk := []) rfl h e
    cases sl with
    | no => exact k.elim
    | pk w => exact k.elim
    | val w =>
      obtain ⟨x, rfl, r⟩ := r
      exact ⟨x, e2, k x σ H F ρ C (h.push r)⟩
    | own m =>
      obtain ⟨a, rfl, r⟩ := r
      exact ⟨_, e2, k _ σ H F ρ C (h.move e e2)⟩
/-! except without a name -/
def dCatchO (cat : Option Bool) (suite : DS) (C : Str) : DS := fun τ1 S1 => match cat with
  | some true => (match suite τ1 S1 with
    | .ex _ _ _ => .no
    | o => o)
  | some false => .ex C τ1 S1
  | none => .no
def dTryO (cat : Str → Option Bool) (body suite : DS) : DS := fun τ S => match body τ S with
  | .ex C τ1 S1 => dCatchO (cat C) suite C τ1 S1
  | o => o
theorem CxOk.suO {X : Cx} {a : Addr} {pn : List (Addr × Obj)} (c : CxOk D Wx X) : CxOk D.hot WNo (X.suite a pn) :=
  ⟨c.K, c.prog, c.w, c.mg, c.base, c.N, c.sc, c.kind, c.un, fun h => (by cases h), fun h => (by cases h), c.fn, takes_none5, PassesOwn.never, fun h => by cases h⟩
theorem vs_tryO {x : Str} {body suite : List Stmt} {b₀ : Stmt} {np pos pos' : Pos} {db ds : DS} (o : DOk D) (ht : D.top = true) (hx : x ∈ D.ecs) (hg : D.sc.names.lookup x = some .globalImplicit) (hp : plainName x = true)
    (hb : ∀ W', VSs D W' body db) (hs : VSs D.hot WNo (b₀ :: suite) ds) : VS D Wx (.Try body [.ExceptHandler (some (.Name x np)) none (b₀ :: suite) pos'] [] [] pos) (dTryO (catches D.exm x) db ds) := by
  have ex := o.ecs x hx
  obtain ⟨ts, ps, ss⟩ := hs
  have key : ∃ tb : WX → TS, ∀ W', (∀ X, CxOk D W' X → PSs X body (tb W')) ∧ ∀ B E, B.K = D.K → Imp B E W' → SimS B E (tb W') db := ⟨fun W' => (hb W').choose, fun W' => (hb W').choose_spec⟩
  obtain ⟨tb, htb⟩ := key
  refine ⟨fun Dn σ H => tb (wOnly D.K (.ref (He.ga D.K x)) (fun _ _ _ => ts) Wx Dn) Dn σ H, fun X c => ?_, fun B E hK iw F ρ τ σ S H C Dn h k => ?_⟩
  · obtain ⟨k1, k2, k3⟩ := c.stk ht
    rw [← c.K]
    exact ps_try_only (tb := tb) (ts := fun _ _ _ => ts) (c := .ref (He.ga X.K x)) k1 k2 ⟨c.gl hg, plain_dbg hp, .inl (by rw [c.mg, c.K]; exact ex.mg)⟩ c.tk
      (fun W' pn xe tk pass => (htb W').1 _ (c.tr tk pass)) fun a oe cls d pn _ _ => ps _ c.suO
  · refine (htb (wOnly D.K (.ref (He.ga D.K x)) (fun _ _ _ => ts) Wx Dn)).2 B (fun Cn τ1 S1 => OP B E Dn (dCatchO (catches D.exm x Cn) ds Cn τ1 S1)) hK (fun Cn τ1 S1 F1 ρ1 C1 σ1 H1 h1 k1 => ?_) F ρ τ σ S H C Dn h ?_
    · have k1 : OP B E Dn (dCatchO (catches D.exm x Cn) ds Cn τ1 S1) := k1
      cases hcat : catches D.exm x Cn with
      | none => rw [hcat] at k1; exact k1.elim
      | some b =>
        rw [hcat] at k1
        refine ⟨b, by rw [hK]; exact o.exm _ _ _ (find_exm hcat), fun hb => ?_, fun hb => ?_⟩
        · subst hb
          refine fun a na => ss B XNo hK imp_no F1 ρ1 τ1 σ1 S1 H1 C1 _ h1 ?_
          unfold dCatchO at k1
          dsimp only at k1
          cases e : ds τ1 S1 with
          | nx τ2 S2 => rw [e] at k1; exact k1
          | bk τ2 S2 => rw [e] at k1; exact k1
          | ct τ2 S2 => rw [e] at k1; exact k1
          | rt r τ2 S2 => rw [e] at k1; exact k1
          | ex Cn2 τ2 S2 => rw [e] at k1; exact k1.elim
          | no => rw [e] at k1; exact k1.elim
        · subst hb
          exact iw Cn τ1 S1 F1 ρ1 C1 σ1 H1 h1 k1
    · unfold dTryO at k
      cases e : db τ S with
      | nx τ2 S2 => rw [e] at k; exact k
      | bk τ2 S2 => rw [e] at k; exact k
      | ct τ2 S2 => rw [e] at k; exact k
      | rt r τ2 S2 => rw [e] at k; exact k
      | ex Cn2 τ2 S2 => rw [e] at k; exact k
      | no => rw [e] at k; exact k
end
/-! ### the reading -/
section
variable (n : Nat) (rS : DC → Stmt → DS)
abbrev eE : DC → Expr → DE := (den n).1
abbrev eT : DC → Expr → DT := (den n).2
def argsM (m : Str) (D : DC) (es : List Expr) : DA := if m = "extend" then argsP (eE n) D es else argsK (eE n) D es
def argsB (D : DC) : List Expr → DA
  | [] => dNil
  | e :: es => dCons (dBx (eE n D e)) (argsB D es)
def top0 (D : DC) : Expr → DE
  | .Call (.Attribute (.Name x px) m apos) es [] cpos => if plainName x && visC D x && callC apos cpos es then (match mmeth m es.length with
    | some f => (match nameI D x with
      | some i => if D.bx.contains x then dMutH "list" f (dVar i) (argsM n m D es) else dMut "list" f i (argsM n m D es)
      | none => dNo)
    | none => eE n D (.Call (.Attribute (.Name x px) m apos) es [] cpos)) else dNo
  | .Call (.Attribute o m apos) es [] cpos => (match mmeth m es.length with
    | some f => if plainBase o && callC apos cpos es then dMutH "list" f (eE n D o) (argsM n m D es) else dNo
    | none => eE n D (.Call (.Attribute o m apos) es [] cpos))
  | .Tuple es k p => if D.bx.contains "()" && es.all notStar then dTup (argsB n D es) else eE n D (.Tuple es k p)
  | e => eE n D e
def blkS (D : DC) : List Stmt → DS
  | [] => dSkip
  | st :: r => dSeq (rS D st) (blkS D r)
def asgS0 (D : DC) (tg e : Expr) : DS := match tg with
  | .Name y py => if locC D y then (match nameI D y with
    | some i => if D.bx.contains y then (if notComp e then dAsg (top0 n D e) (gBox i) else fun _ _ => .no) else (match e with
      | .ListComp elt [⟨t, it, ifs, 0⟩] scope pos => if D.bx.contains "ex" = true then fun _ _ => .no else dAsg (eE (n + 1) D (.ListComp elt [⟨t, it, ifs, 0⟩] scope pos)) (gSet i)
      | e => if notComp e then dAsg (top0 n D e) (gSet i) else fun _ _ => .no)
    | none => fun _ _ => .no) else fun _ _ => .no
  | .Tuple es k p => if D.calm && notComp e && (!isTup e || ssT D (.Tuple es k p) e) then (match tgOf D (.Tuple es k p) with
    | some t => dAsg (top0 n D e) (gTg t)
    | none => fun _ _ => .no) else fun _ _ => .no
  | .Subscript o (.Tuple ks _ _) _ => if ks.all notStar then dPutT (eE n D e) (eE n D o) (argsK (eE n) D ks) else fun _ _ => .no
  | .Subscript o i _ => if plainIx i then (match o with
    | .Name x _ => if plainName x && visC D x && !D.bx.contains x then (match nameI D x with
      | some j => dPutO (eE n D e) j (eE n D i)
      | none => fun _ _ => .no) else dPutH (eE n D e) (eE n D o) (eE n D i)
    | o => dPutH (eE n D e) (eE n D o) (eE n D i)) else fun _ _ => .no
  | _ => fun _ _ => .no
def parS (D : DC) : Expr → Expr → Option DS
  | .Tuple [.Name x px, .Name y py] _ _, .Tuple [a, b] _ _ => if D.calm && parC D [(x, px), (y, py)] [a, b] && !D.bx.contains x && !D.bx.contains y then (match nameI D x, nameI D y with
      | some i, some j => if i = j then none else some (dPar2 i j (dCons (eE n D a) (dCons (eE n D b) dNil)))
      | _, _ => none) else none
  | .Tuple [.Name x px, .Name y py, .Name z pz] _ _, .Tuple [a, b, c] _ _ => if D.calm && parC D [(x, px), (y, py), (z, pz)] [a, b, c] && !D.bx.contains x && !D.bx.contains y && !D.bx.contains z then (match nameI D x, nameI D y, nameI D z with
      | some i, some j, some l => if i = j ∨ i = l ∨ j = l then none else some (dPar3 i j l (dCons (eE n D a) (dCons (eE n D b) (dCons (eE n D c) dNil))))
      | _, _, _ => none) else none
  | _, _ => none
def asgS (D : DC) (tg e : Expr) : DS := match parS n D tg e with
  | some d => d
  | none => asgS0 n D tg e
def stepS (D : DC) : Stmt → DS
  | .Pass _ => dSkip
  | .Break _ => fun τ S => .bk τ S
  | .Continue _ => fun τ S => .ct τ S
  | .Return none _ => dRetN
  | .Return (some (.Name x p)) _ => if plainName x && visC D x then (match nameI D x with
    | some i => dRetV i
    | none => fun _ _ => .no) else dRet (eE n D (.Name x p))
  | .Return (some e) _ => dRet (top0 n D e)
  | .Expr e _ => if notComp e then dExpr (top0 n D e) else fun _ _ => .no
  | .If c a b _ => dIfS (eT n D c) (blkS rS D a) (blkS rS D b)
  | .For tg iter body [] _ => if D.calm && notSet iter then (match tgOf D tg with
    | some t => dFor (stepI (eE n) D iter) (gTg t) (blkS rS D body)
    | none => fun _ _ => .no) else fun _ _ => .no
  | .While c body [] _ => dWhile (eT n D c) (blkS rS D body)
  | .Assign [tg] e _ => asgS n D tg e
  | .Raise (some (.Call (.Name x _) [.Constant (.str _) _ _] [] _)) none _ => if D.calm && D.ecs.contains x && D.sc.names.lookup x == some .globalImplicit && plainName x then dRaise x else fun _ _ => .no
  | .Try body [.ExceptHandler (some (.Name x _)) (some y) (b₀ :: suite) _] [] [] _ => if D.top && D.ecs.contains x && D.sc.names.lookup x == some .globalImplicit && plainName x && D.sc.names.lookup y == some .local then (match nameI D y with
    | some i => dTry (catches D.exm x) i (blkS rS D body) (blkS rS D.hot (b₀ :: suite))
    | none => fun _ _ => .no) else fun _ _ => .no
  | .Try body [.ExceptHandler (some (.Name x _)) none (b₀ :: suite) _] [] [] _ => if D.top && D.ecs.contains x && D.sc.names.lookup x == some .globalImplicit && plainName x then
      dTryO (catches D.exm x) (blkS rS D body) (blkS rS D.hot (b₀ :: suite)) else fun _ _ => .no
  | _ => fun _ _ => .no
end
def denS (n : Nat) : Nat → DC → Stmt → DS
  | 0 => fun _ _ _ _ => .no
  | m + 1 => stepS n (denS n m)
/-! ### soundness -/
def SndS (rS : DC → Stmt → DS) : Prop := ∀ D Wx, DOk D → ∀ st, VS D Wx st (rS D st)
section
variable {n : Nat} {D : DC} {Wx : WX} (o : DOk D)
include o
theorem snd_argsM {m : Str} {es : List Expr} (h : (es.all notStar) = true) : VA D Wx es (argsM n m D es) := by
  unfold argsM
  split
  · exact snd_argsP (snd_den n) o es h
  · exact snd_argsK (snd_den n) o es h
theorem mmeth_ok {m : Str} {l : Nat} {f : MF} (hf : mmeth m l = some f) : ∃ (id : String) (r : V → List V → Hp → VK → Prop), SimM D.K "list" f r ∧ Slot "list" m id ∧ typeOf (.builtin id) = pure (.type "method_descriptor") ∧ ∀ X, CxOk D Wx X → MtR X id r := by
  unfold mmeth at hf
  split at hf
  · rename_i e; obtain ⟨e1, e2⟩ := e; subst e1; cases hf
    exact ⟨_, _, sim_append, PySem.F.slot_list_append, PySem.F.type_list_append, fun X c => mt_append⟩
  split at hf
  · rename_i e; obtain ⟨e1, e2⟩ := e; subst e1; cases hf
    exact ⟨_, rExtendX D.K, sim_extend, PySem.F.slot_list_extend, PySem.F.type_list_extend, fun X c => by rw [← c.K]; exact mt_extendX⟩
  split at hf
  · rename_i e; obtain ⟨e1, e2⟩ := e; subst e1; cases hf
    exact ⟨_, _, sim_pop, PySem.F.slot_list_pop, PySem.F.type_list_pop, fun X c => mt_pop⟩
  split at hf
  · rename_i e; obtain ⟨e1, e2⟩ := e; subst e1; cases hf
    exact ⟨_, _, sim_reverse, PySem.F.slot_list_reverse, PySem.F.type_list_reverse, fun X c => mt_reverse⟩
  split at hf
  · rename_i e; obtain ⟨e1, e2⟩ := e; subst e1; cases hf
    exact ⟨_, _, sim_clear, PySem.F.slot_list_clear, PySem.F.type_list_clear, fun X c => mt_clear⟩
  · cases hf
theorem argsM_nil {m : Str} : argsM n m D [] = dNil := by unfold argsM; split <;> rfl
theorem all_of {apos cpos : Pos} {es : List Expr} (h : callC apos cpos es = true) : (es.all notStar) = true := by
  unfold callC at h
  rw [Bool.and_eq_true, Bool.and_eq_true] at h
  exact h.1.1
theorem snd_argsB : ∀ {es : List Expr}, (es.all notStar) = true → VAN D Wx es (argsB n D es)
  | [], _ => van_nil
  | e :: es, h => by
    rw [List.all_cons, Bool.and_eq_true] at h
    exact van_cons h.1 ((snd_den n).e D Wx o e) (snd_argsB h.2)
theorem snd_top (e : Expr) : VE0 D Wx e (top0 n D e) := by
  unfold top0
  split
  · rename_i x px m apos es cpos
    split
    · rename_i h
      rw [Bool.and_eq_true, Bool.and_eq_true] at h
      obtain ⟨⟨h1, h2⟩, h3⟩ := h
      split
      · rename_i f hf
        split
        · rename_i i hi
          have hi := nameI_some hi
          obtain ⟨id, r, q1, q2, q3, q4⟩ := mmeth_ok (D := D) (Wx := Wx) o hf
          split
          · cases es with
            | nil => rw [argsM_nil o]; exact (ve_mutH0 q1 PySem.F.plainAttrs_list q2 q3 q4 (ve_name hi h2 h1) rfl h3).ve0
            | cons e es => exact (ve_mutH q1 PySem.F.plainAttrs_list q2 q3 q4 (ve_name hi h2 h1) (snd_argsM o (all_of o h3)) rfl h3).ve0
          · cases es with
            | nil => rw [argsM_nil o]; exact ve_mut0 q1 PySem.F.plainAttrs_list q2 q3 q4 (fun X c => pe_nm c hi h2 h1) h3
            | cons e es => exact ve_mut q1 PySem.F.plainAttrs_list q2 q3 q4 (fun X c => pe_nm c hi h2 h1) (snd_argsM o (all_of o h3)) h3
        · exact ve0_no
      · exact ((snd_den n).e D Wx o _).ve0
    · exact ve0_no
  · rename_i ob m apos es cpos _
    split
    · rename_i f hf
      split
      · rename_i h
        rw [Bool.and_eq_true] at h
        obtain ⟨h1, h3⟩ := h
        obtain ⟨id, r, q1, q2, q3, q4⟩ := mmeth_ok (D := D) (Wx := Wx) o hf
        cases es with
        | nil => rw [argsM_nil o]; exact (ve_mutH0 q1 PySem.F.plainAttrs_list q2 q3 q4 ((snd_den n).e D Wx o ob) h1 h3).ve0
        | cons e es => exact (ve_mutH q1 PySem.F.plainAttrs_list q2 q3 q4 ((snd_den n).e D Wx o ob) (snd_argsM o (all_of o h3)) h1 h3).ve0
      · exact ve0_no
    · exact ((snd_den n).e D Wx o _).ve0
  · split
    · rename_i h
      rw [Bool.and_eq_true] at h
      exact ve0_tupB (snd_argsB o h.2)
    · exact ((snd_den n).e D Wx o _).ve0
  · exact ((snd_den n).e D Wx o _).ve0
theorem snd_asg0 {tg e : Expr} {pos : Pos} : VS D Wx (.Assign [tg] e pos) (asgS0 n D tg e) := by
  unfold asgS0
  split
  · rename_i y py
    split
    · rename_i hl
      split
      · rename_i i hi
        have hi := nameI_some hi
        split
        · split
          · rename_i hc
            exact vs_asg (snd_top o e) (vg_box o hi hl) (fun env _ _ => by unfold swapsWithSole; exact sw_none hc _ _ env) (fun env => ss_none rfl env) fun env => rfl
          · exact vs_no
        split
        · rename_i elt t it ifs scope lpos
          split
          · exact vs_no
          rename_i hex
          cases hsw : swC D y py lpos scope with
          | true =>
            show VS D Wx _ (dAsg (stepLc (den n).1 (den n).2 D elt t it ifs scope) (gSet i))
            unfold stepLc
            split
            · rename_i tt htt
              split
              · rename_i h
                rw [Bool.and_eq_true, Bool.and_eq_true, Bool.and_eq_true] at h
                rw [if_neg (by rw [Bool.and_eq_true]; exact fun z => hex z.1)]
                exact vs_setLc o h.1.1.1 hi hsw (snd_IP (snd_den n) o t it) h.1.1.2 htt (snd_ifs (snd_den n) o.blk ifs) ((snd_den n).e _ _ o.blk elt) (notSet_of h.2)
              · exact vs_no
            · exact vs_no
          | false => exact vs_asg ((snd_den (n + 1)).e D Wx o _).ve0 (vg_name o hi hl) (fun env hs hk => by
              unfold swapsWithSole
              have q := sw_lc (D := D) (elt := elt) (gs := [⟨t, it, ifs, 0⟩]) (scope := scope) (pos := lpos) (py := py) (y := y) (l := pos.line) hs hk
              rw [hsw] at q
              exact q) (fun env => ss_none rfl env) fun env => rfl
        · split
          · rename_i hc
            exact vs_asg (snd_top o e) (vg_name o hi hl) (fun env _ _ => by unfold swapsWithSole; exact sw_none hc _ _ env) (fun env => ss_none rfl env) fun env => rfl
          · exact vs_no
      · exact vs_no
    · exact vs_no
  · rename_i es k p
    split
    · rename_i h
      rw [Bool.and_eq_true, Bool.and_eq_true] at h
      split
      · rename_i t ht
        refine vs_asgC (snd_top o e) (vg_tg o h.1.1 ht) (fun env _ _ => by unfold swapsWithSole; exact sw_none h.1.2 _ _ env) (fun env he => ?_) fun env => rfl
        have h2 := h.2
        rw [Bool.or_eq_true] at h2
        rcases h2 with h2 | h2
        · exact ss_none (by simpa [isTup] using h2) env
        · exact ss_noneT h2 he
      · exact vs_no
    · exact vs_no
  · split
    · rename_i hk
      exact vs_putT ((snd_den n).e D Wx o _) ((snd_den n).e D Wx o _) (snd_argsK (snd_den n) o _ hk)
    · exact vs_no
  · split
    · split
      · split
        · rename_i h
          rw [Bool.and_eq_true, Bool.and_eq_true] at h
          split
          · rename_i j hj
            exact vs_putO ((snd_den n).e D Wx o _) (fun X c => pe_nm c (nameI_some hj) h.1.2 h.1.1) ((snd_den n).e D Wx o _)
          · exact vs_no
        · exact vs_putH ((snd_den n).e D Wx o _) ((snd_den n).e D Wx o _) ((snd_den n).e D Wx o _)
      · exact vs_putH ((snd_den n).e D Wx o _) ((snd_den n).e D Wx o _) ((snd_den n).e D Wx o _)
    · exact vs_no
  · exact vs_no
theorem notStar2 {a b : Expr} {ns} (h : parC D ns [a, b] = true) : notStar a = true ∧ notStar b = true := by
  unfold parC at h
  simp only [Bool.and_eq_true, List.all_cons, List.all_nil, Bool.and_true] at h
  exact h.1.1.2
theorem notStar3 {a b c : Expr} {ns} (h : parC D ns [a, b, c] = true) : notStar a = true ∧ notStar b = true ∧ notStar c = true := by
  unfold parC at h
  simp only [Bool.and_eq_true, List.all_cons, List.all_nil, Bool.and_true] at h
  exact h.1.1.2
theorem snd_par {tg e : Expr} {pos : Pos} {d : DS} (h : parS n D tg e = some d) : VS D Wx (.Assign [tg] e pos) d := by
  unfold parS at h
  split at h
  · rename_i x px y py _ _ a b _ _
    split at h
    · rename_i q
      rw [Bool.and_eq_true, Bool.and_eq_true, Bool.and_eq_true] at q
      split at h
      · rename_i i j hi hj
        split at h
        · cases h
        · rename_i hij
          cases h
          obtain ⟨s1, s2⟩ := notStar2 o q.1.1.2
          exact vs_par2 o q.1.1.1 (nameI_some hi) (nameI_some hj) hij q.1.1.2 (va_cons s1 ((snd_den n).e D Wx o a) (va_cons s2 ((snd_den n).e D Wx o b) va_nil))
      · cases h
    · cases h
  · rename_i x px y py z pz _ _ a b c _ _
    split at h
    · rename_i q
      rw [Bool.and_eq_true, Bool.and_eq_true, Bool.and_eq_true, Bool.and_eq_true] at q
      split at h
      · rename_i i j l hi hj hl
        split at h
        · cases h
        · rename_i hn
          cases h
          obtain ⟨s1, s2, s3⟩ := notStar3 o q.1.1.1.2
          exact vs_par3 o q.1.1.1.1 (nameI_some hi) (nameI_some hj) (nameI_some hl) (fun z => hn (.inl z)) (fun z => hn (.inr (.inl z))) (fun z => hn (.inr (.inr z))) q.1.1.1.2 (va_cons s1 ((snd_den n).e D Wx o a) (va_cons s2 ((snd_den n).e D Wx o b) (va_cons s3 ((snd_den n).e D Wx o c) va_nil)))
      · cases h
    · cases h
  · cases h
theorem snd_asg {tg e : Expr} {pos : Pos} : VS D Wx (.Assign [tg] e pos) (asgS n D tg e) := by
  unfold asgS
  split
  · rename_i d h
    exact snd_par o h
  · exact snd_asg0 o
end
section
variable {n : Nat} {rS : DC → Stmt → DS} (s : SndS rS)
include s
theorem snd_blk : ∀ {D : DC} {Wx : WX}, DOk D → ∀ l : List Stmt, VSs D Wx l (blkS rS D l)
  | _, _, _, [] => vss_nil
  | _, _, o, st :: r => vss_cons (s _ _ o st) (snd_blk o r)
variable {D : DC} {Wx : WX} (o : DOk D)
include o
theorem snd_st (st : Stmt) : VS D Wx st (stepS n rS D st) := by
  unfold stepS
  split
  · exact vs_pass
  · exact vs_break
  · exact vs_continue
  · exact vs_retN
  · split
    · rename_i h
      rw [Bool.and_eq_true] at h
      split
      · rename_i i hi
        exact vs_retV (nameI_some hi) h.2 h.1
      · exact vs_no
    · exact vs_ret ((snd_den n).e D Wx o _).ve0
  · exact vs_ret (snd_top o _)
  · split
    · rename_i h
      exact vs_expr (snd_top o _) fun env => sw_none h _ _ env
    · exact vs_no
  · exact vs_if ((snd_den n).t D Wx o _) (snd_blk s o _) (snd_blk s o _)
  · split
    · rename_i h
      rw [Bool.and_eq_true] at h
      split
      · rename_i t ht
        exact vs_for h.1 (snd_I (snd_den n) o _ _) (vg_tg o h.1 ht) (snd_blk s o _) (notSet_of h.2)
      · exact vs_no
    · exact vs_no
  · exact vs_while ((snd_den n).t D Wx o _) (snd_blk s o _)
  · exact snd_asg o
  · split
    · rename_i h
      rw [Bool.and_eq_true, Bool.and_eq_true, Bool.and_eq_true] at h
      exact vs_raise o h.1.1.1 (by simpa using h.1.1.2) (by simpa using h.1.2) h.2
    · exact vs_no
  · split
    · rename_i h
      rw [Bool.and_eq_true, Bool.and_eq_true, Bool.and_eq_true, Bool.and_eq_true] at h
      obtain ⟨⟨⟨⟨h1, h2⟩, h3⟩, h4⟩, h5⟩ := h
      split
      · rename_i i hi
        exact vs_try o h1 (by simpa using h2) (by simpa using h3) h4 (nameI_some hi) (by simpa using h5) (fun W' => snd_blk s o _) (snd_blk s o.hot _)
      · exact vs_no
    · exact vs_no
  · split
    · rename_i h
      rw [Bool.and_eq_true, Bool.and_eq_true, Bool.and_eq_true] at h
      obtain ⟨⟨⟨h1, h2⟩, h3⟩, h4⟩ := h
      exact vs_tryO o h1 (by simpa using h2) (by simpa using h3) h4 (fun W' => snd_blk s o _) (snd_blk s o.hot _)
    · exact vs_no
  · exact vs_no
end
theorem snd_denS (n : Nat) : ∀ m, SndS (denS n m)
  | 0 => fun _ _ _ _ => vs_no
  | m + 1 => fun D Wx o st => snd_st (snd_denS n m) o st
theorem snd_body (n m : Nat) {D : DC} {Wx : WX} (o : DOk D) (l : List Stmt) : VSs D Wx l (blkS (denS n m) D l) := snd_blk (snd_denS n m) o l
end VM

set_option Elab.async false
set_option linter.all false
/-! VM18: defs, programs. -/
namespace VM
open PySem PySem.Spec L2
open PyProof.Rows hiding St

theorem StR.front {B : Base} {F ρ S H C} {a b : List Sl} {c d : List (Option V)} (hl : a.length = c.length) (h : StR B F ρ (a ++ b) (c ++ d) S H C) : StR B F ρ a c S H C := by
  refine h.patch hl fun i sl v e1 e2 => .inl ⟨?_, ?_⟩
  · rw [List.getElem?_append_left (List.getElem?_eq_some_iff.mp e1).1]; exact e1
  · rw [List.getElem?_append_left (List.getElem?_eq_some_iff.mp e2).1]; exact e2
def startT (N : List Str) (ws : List W) : Tau := ws.map .val ++ List.replicate (N.length - ws.length) .no
/-- a def's call: its body from its parameters -/
def runF (n m : Nat) (D : DC) (np : Nat) (body : List Stmt) : CF := fun ws S => if ws.length = np then (match blkS (denS n m) D body (startT D.N ws) S with
  | .nx _ S' => .ok (.val .non) S'
  | .rt r _ S' => .ok r S'
  | .ex C _ S' => .ex C S'
  | _ => .no) else .no
theorem runF_len {n m : Nat} {D : DC} {np : Nat} {body : List Stmt} {ws : List W} {S : Store} (h : runF n m D np body ws S ≠ .no) : ws.length = np := by
  unfold runF at h
  split at h
  · assumption
  · exact (h rfl).elim
theorem start_str {K : PySem.W.Frag} {ρ : Nat → Addr} {F : Addr → Prop} {S : Store} {H : Hp} {C : List Addr} {ws : List W} {vs : List V} {N : List Str} (r : Reps ⟨K, ρ, S.next, F, H⟩ ws vs) (cel : CellsR ⟨K, ρ, S.next, F, H⟩ S.cells C) (nd : C.Nodup)
    (cF : ∀ a ∈ C, ¬ F a) (cH : ∀ a ∈ C, H a ≠ none) (fT : ∀ a, F a → H a ≠ none) : StR ⟨K, H, F, ρ, S.next, C⟩ F ρ (startT N ws) (L2.start N vs) S H C := by
  have h0 : StR ⟨K, H, F, ρ, S.next, C⟩ F ρ [] [] S H C := ⟨rfl, fun i sl v e _ => by simp at e, fun i j m m' a e _ _ _ => by simp at e, fun i m a e _ => by simp at e, fun i m a e _ => by simp at e, fun i w a e _ => by simp at e, cel, nd, cF, cH, fT,
    fun _ _ e _ => e, fun _ q => q, fun _ q => .inl q, fun _ q => .inl q, fun i m a e _ => by simp at e, fun _ _ => rfl, Nat.le_refl _⟩
  have hl := r.length
  refine h0.patch (by unfold startT L2.start; simp [hl]) fun i sl v e1 e2 => .inr ?_
  unfold startT at e1
  unfold L2.start at e2
  by_cases hi : i < ws.length
  · rw [List.getElem?_append_left (by simpa using hi), List.getElem?_map] at e1
    rw [List.getElem?_append_left (by simpa [← hl] using hi), List.getElem?_map] at e2
    obtain ⟨w, ew, rfl⟩ := Option.map_eq_some_iff.mp e1
    obtain ⟨x, ex, rfl⟩ := Option.map_eq_some_iff.mp e2
    obtain ⟨y, ey, ry⟩ := r.get ew
    rw [ex] at ey
    cases ey
    exact .inr ⟨w, x, rfl, rfl, ry⟩
  · rw [List.getElem?_append_right (by simpa using hi)] at e1
    have := List.mem_of_getElem? e1
    rw [List.mem_replicate] at this
    exact .inl this.2
/-- the context of a def's body -/
theorem cx_def {D : DC} {qual : Str} {f : Addr} {cd : Value} {A : Around} {outer : List Env} {s : Shared} {H : Hp} {E : XK} (hk : D.sc.kind = .function) (hc : D.calm = true) (hr : Room D.k (A.deeper (envOfC qual D.sc s.heap.objs.size f cd))) :
    CxOk D (fun cls d _ H => E cls d H) (cxOf (L2.CX D.P D.w) D.P D.w D.K D.mg D.base D.N qual D.sc f cd A outer s H E) where
  K := rfl
  prog := rfl
  w := rfl
  mg := rfl
  base := rfl
  N := rfl
  sc := rfl
  kind := hk
  un := by
    have := hr.un
    show (A.deeper (envOfC qual D.sc s.heap.objs.size f cd)).units + 65 < cLine
    omega
  room := fun _ => hr
  hot := fun _ => rfl
  fn := fun _ _ => rfl
  tk := takes_of rfl rfl rfl rfl
  pass := passes_of rfl
  stk := fun _ => ⟨rfl, rfl, rfl⟩
/-- a def keeps its promise -/
theorem def_ok {n m : Nat} {D : DC} {x qual : Str} {params : Arguments} {body : List Stmt} {f : Addr} {fd : FuncData} {ps : List Str} (o : DOk D) (hc : D.calm = true) (F : FunD D.K x qual params body D.sc [] [] f fd) (S : FnScope D.N ps D.sc) :
    FnOk D.P D.w D.K D.mg D.base (L2.CX D.P D.w) (D.k + 1) f fd ps (spW D.K (runF n m D ps.length body) ps.length) := by
  refine F.ok S (fun vs H Q E h => spW_len h) fun cdv A outer s H vs Q E hr h => ?_
  obtain ⟨t, pt, st⟩ := snd_body n m (D := D) (Wx := fun cls d _ H => E cls d H) o body
  refine ⟨t, pt _ (cx_def S.kind hc hr), ?_⟩
  obtain ⟨ρ, F0, S0, ws, C, hl, r, cel, nd, cF, cH, fT, hq⟩ := h
  have h0 := start_str (N := D.N) r cel nd cF cH fT
  have B : Base := ⟨D.K, H, F0, ρ, S0.next, C⟩
  refine st ⟨D.K, H, F0, ρ, S0.next, C⟩ (fun Cn τ S' => ∀ H' F' ρ' C', StR ⟨D.K, H, F0, ρ, S0.next, C⟩ F' ρ' [] [] S' H' C' → E (.ref (He.ga D.K Cn)) none H') rfl (fun Cn τ S' F' ρ' C' σ H' h' e => e H' F' ρ' C' (StR.pops τ σ h'.len (by rw [List.append_nil, List.append_nil]; exact h'))) F0 ρ _ _ S0 H C _ h0 ?_
  unfold runF at hq
  rw [if_pos hl] at hq
  cases e : blkS (denS n m) D body (startT D.N ws) S0 with
  | nx τ S' =>
    rw [e] at hq
    intro σ H' F' ρ' C' h'
    have h2 : StR _ F' ρ' [] [] S' H' C' := StR.pops τ σ h'.len (by rw [List.append_nil, List.append_nil]; exact h')
    exact hq .non H' F' ρ' C' (h2.push repNon)
  | rt r τ S' =>
    rw [e] at hq
    intro v σ H' F' ρ' C' h'
    exact hq v H' F' ρ' C' (StR.front (a := [r]) (b := τ) (c := [some v]) (d := σ) rfl h')
  | ex Cn τ S' => rw [e] at hq; exact hq
  | bk τ S' => rw [e] at hq; exact hq.elim
  | ct τ S' => rw [e] at hq; exact hq.elim
  | no => rw [e] at hq; exact hq.elim
end VM

set_option Elab.async false
set_option linter.all false
set_option maxRecDepth 100000
/-! VM42: how a thing that is a value is made. -/
namespace VM
open PySem PySem.Spec L2
open PyProof.Rows hiding St
/-- what is fresh and is to be a cell -/
def freshB (D : DC) : Expr → Bool
  | .Dict [] [] _ => D.bx.contains "{}"
  | .List [] _ => D.bx.contains "{}"
  | _ => false
/-- self.f = e, one behind another -/
def initS (rE : DC → Expr → DE) (D : DC) (s : Str) (Cl : Str) : List Stmt → Option (List (Str × DE))
  | [] => some []
  | .Assign [.Attribute (.Name x _) f _] e _ :: r => if decide (x = s) && plainName x && notComp e && D.fld Cl f then (match initS rE D s Cl r with
    | some l => if l.any (fun q => q.1 == f) then none else some ((f, if freshB D e = true then dBx (rE D e) else dKeep (rE D e)) :: l)
    | none => none) else none
  | _ :: _ => none
def dInit : List (Str × DE) → List (Str × W) → Tau → Store → R (List (Str × W))
  | [], acc, τ, S => .ok acc τ S
  | (f, d) :: r, acc, τ, S => (d τ S).bind fun x τ S => match x with
    | .val w => if (τ.any Sl.isPk) = false ∧ acc.length < 900 then dInit r (acc ++ [(f, w)]) τ S else .no
    | _ => .no
/-- an __init__ by values -/
def runI (n : Nat) (D : DC) (s Cl : Str) (np : Nat) (body : List Stmt) : CF := fun ws S => if ws.length = np then (match initS (den n).1 D s Cl body with
  | some fs => (match dInit fs [] (.no :: startT (D.N.drop 1) ws) S with
    | .ok acc _ S' => .ok (.val (.obj Cl (acc.map (·.1)) (acc.map (·.2)))) S'
    | _ => .no)
  | none => .no) else .no
section
variable {B : Base} {F : Addr → Prop} {ρ : Nat → Addr} {gs : List Sl} {gv : List (Option V)} {S : Store} {H : Hp} {C : List Addr}
/-- what nothing here leans on may change -/
theorem StR.priv {p : Addr} {o' : HO} (h : StR B F ρ gs gv S H C) (hp : H p ≠ none) (nS : ∀ o, H p = some o → ¬ Stable F p o) (nC : p ∉ C) (nO : ∀ (i : Nat) m, gs[i]? = some (.own m) → gv[i]? ≠ some (some (.ref p))) (nP : (gs.any Sl.isPk) = false) (hB : p ∈ B.A0 ∨ B.H0 p = none) :
    StR B F ρ gs gv S (upd H p o') C ∧ (gOf B F ρ S H).le (gOf B F ρ S (upd H p o')) := by
  have le : (gOf B F ρ S H).le (gOf B F ρ S (upd H p o')) := ⟨rfl, Nat.le_refl _, fun _ _ => rfl, fun _ q => q, fun a o e s => by
    show upd H p o' a = some o
    by_cases z : a = p
    · subst z; exact (nS o e s).elim
    · rw [upd_ne z]; exact e⟩
  have kp : ∀ {a : Addr}, H a ≠ none → upd H p o' a ≠ none := fun {a} q => by
    by_cases z : a = p
    · subst z; rw [upd_same]; simp
    · rw [upd_ne z]; exact q
  refine ⟨⟨h.len, fun i sl v e1 e2 => (h.ent i sl v e1 e2).le le fun a o ev k q => ?_, h.uniq, h.nF, h.nC, h.pC, h.cel.le le fun a ha o q => ?_, h.cnd, h.cF, fun a q => kp (h.cH a q), fun a q => kp (h.fT a q), fun a o e q => ?_, h.fF, h.fN, h.cN, h.oN, h.rho, h.nx⟩, le⟩
  · show upd H p o' a = some o
    have z : a ≠ p := fun z => by
      subst z
      rcases k with ⟨m, rfl⟩ | ⟨w, rfl⟩
      · exact nO i m e1 (by rw [e2, ev])
      · exact no_pk nP i w e1
    rw [upd_ne z]; exact q
  · show upd H p o' a = some o
    have z : a ≠ p := fun z => by subst z; exact nC ha
    rw [upd_ne z]; exact q
  · have z : a ≠ p := fun z => by
      subst z
      rcases hB with hB | hB
      · exact q hB
      · rw [hB] at e; cases e
    rw [upd_ne z]; exact h.keep a o e q
end
theorem putF_new {f : Str} {v : V} : ∀ {ks : List Str} {vs : List V}, f ∉ ks → ks.length = vs.length → putF f v (ks.zip vs) = (ks ++ [f]).zip (vs ++ [v])
  | [], [], _, _ => rfl
  | [], _ :: _, _, h => by simp at h
  | _ :: _, [], _, h => by simp at h
  | k :: ks, x :: vs, h, hl => by
    have ne : k ≠ f := fun z => h (z ▸ List.mem_cons_self)
    show putF f v ((k, x) :: ks.zip vs) = _
    unfold putF
    rw [if_neg ne, putF_new (fun z => h (List.mem_cons_of_mem _ z)) (by simpa using hl)]
    rfl
theorem zip_len {ks : List Str} {vs : List V} (h : ks.length = vs.length) : (ks.zip vs).length = ks.length := by rw [List.length_zip, h, Nat.min_self]
section
variable {D : DC} {Wx : WX}
def SimN (B : Base) (E : XW) (Cl : Str) (t : TS) (fs : List (Str × DE)) : Prop := ∀ F ρ τ σ S H C (Dn : Ends) (p dx : Addr) (acc : List (Str × W)) (vs : List V),
  StR B F ρ τ σ S H C → σ[0]? = some (some (.ref p)) → H p = some (.ins (He.ga B.K Cl) dx ((acc.map (·.1)).zip vs)) → acc.length = vs.length → Reps (gOf B F ρ S H) (acc.map (·.2)) vs → ¬ F p → p ∉ C → (p ∈ B.A0 ∨ B.H0 p = none) →
  (∀ (i : Nat) m, τ[i]? = some (.own m) → σ[i]? ≠ some (some (.ref p))) → (∀ q ∈ fs, q.1 ∉ acc.map (·.1)) → acc.length < 950 →
  RP (dInit fs acc τ S) (fun acc' τ' S' => ∀ H' F' ρ' C' vs', StR B F' ρ' τ' σ S' H' C' → H' p = some (.ins (He.ga B.K Cl) dx ((acc'.map (·.1)).zip vs')) → acc'.length = vs'.length → Reps (gOf B F' ρ' S' H') (acc'.map (·.2)) vs' → ¬ F' p → p ∉ C' → Dn.nx σ H') E → t Dn σ H
theorem sim_n {B : Base} {E : XW} {Cl f : Str} {te : TE} {d : DE} {t : TS} {fs : List (Str × DE)} (hB : B.K = D.K) (iw : Imp B E Wx) (a : AtOk D Cl f) (s : ∀ B E, B.K = D.K → Imp B E Wx → Sim0 B E te d) (sr : SimN B E Cl t fs) (nf : ∀ q ∈ fs, q.1 ≠ f) :
    SimN B E Cl (fun Dn σ H => sFld D.K (tVar 0) te f { Dn with nx := t Dn } σ H) ((f, d) :: fs) := by
  intro F ρ τ σ S H C Dn p dx acc vs h e0 hp hl hr nF nC pB nO nd hm k
  have h1 := h.re
  refine s (B.re F ρ τ σ S H C) E hB (Imp.re h iw) F ρ τ σ S H C _ h1 (k.bind.mono fun x τ1 S1 k v H1 F1 ρ1 C1 h2 => ?_)
  have k : RP (match x with
    | .val w => if (τ1.any Sl.isPk) = false ∧ acc.length < 900 then dInit fs (acc ++ [(f, w)]) τ1 S1 else .no
    | _ => .no) _ E := k
  cases x with
  | val w =>
    dsimp only at k
    split at k
    · rename_i c
      obtain ⟨c1, c2⟩ := c
      have nA : p ∉ C ++ owns τ σ := fun z => by
        rcases List.mem_append.mp z with z | z
        · exact nC z
        · obtain ⟨i, m, z1, z2⟩ := of_owns z
          exact nO i m z1 z2
      have hp1 : H1 p = some (.ins (He.ga B.K Cl) dx ((acc.map (·.1)).zip vs)) := h2.keep p _ hp nA
      have nn : H p ≠ none := by rw [hp]; simp
      have nF1 : ¬ F1 p := fun z => by
        rcases h2.fN p z with z | z | z
        · exact nF z
        · exact nA z
        · exact nn z
      have nC1 : p ∉ C1 := fun z => by
        rcases h2.cN p z with z | z
        · exact nA z
        · exact nn z
      have nO1 : ∀ (i : Nat) m, τ1[i]? = some (.own m) → σ[i]? ≠ some (some (.ref p)) := fun i m z1 z2 => by
        rcases h2.oN (i + 1) m p z1 z2 with z | z
        · exact nA z
        · exact nn z
      obtain ⟨v', ev, rw1⟩ := StR.top h2
      cases ev
      have le1 : (gOf B F ρ S H).le (gOf B F1 ρ1 S1 H1) := h.le_re (StR.pop h2)
      have h3 : StR B F1 ρ1 τ1 σ S1 H1 C1 := h.unre (StR.pop h2)
      refine ⟨.ref p, e0, p, He.ga D.K Cl, dx, (acc.map (·.1)).zip vs, rfl, ?_, a.cls, a.no, ?_, ?_⟩
      · rw [← hB]; exact hp1
      · rw [zip_len (by rw [List.length_map, hl]), List.length_map]; omega
      · have hk : f ∉ acc.map (·.1) := nd (f, d) List.mem_cons_self
        rw [putF_new hk (by rw [List.length_map, hl])]
        have np : ∀ o, H1 p = some o → ¬ Stable F1 p o := fun o e z => by
          rw [hp1] at e
          cases e
          rcases z with z | ⟨_, z⟩ | ⟨_, _, z, _⟩ | ⟨_, z⟩
          · exact nF1 z
          · cases z
          · cases z
          · cases z
        obtain ⟨h4, le2⟩ := StR.priv (o' := .ins (He.ga D.K Cl) dx ((acc.map (·.1) ++ [f]).zip (vs ++ [v]))) h3 (by rw [hp1]; simp) np nC1 nO1 c1 pB
        have e1 : (acc ++ [(f, w)]).map (·.1) = acc.map (·.1) ++ [f] := by simp
        have e2 : (acc ++ [(f, w)]).map (·.2) = acc.map (·.2) ++ [w] := by simp
        refine sr F1 ρ1 τ1 σ S1 _ C1 Dn p dx (acc ++ [(f, w)]) (vs ++ [v]) h4 e0 ?_ (by simp [hl]) ?_ nF1 nC1 pB nO1 (fun q hq z => ?_) (by simp; omega) k
        · rw [upd_same, e1, hB]
        · rw [e2]
          exact Reps.append (Reps.le (le1.trans le2) _ _ hr) (Reps.cons (Rep.le le2 _ _ rw1) Reps.nil)
        · rw [e1] at z
          rcases List.mem_append.mp z with z | z
          · exact nd q (List.mem_cons_of_mem _ hq) z
          · exact nf q hq (List.mem_singleton.mp z)
    · exact k.elim
  | no => exact k.elim
  | own m => exact k.elim
  | pk w => exact k.elim
theorem init_ok (n : Nat) (o : DOk D) {s Cl : Str} (h0 : D.N[0]? = some s) (hv : visC D s = true) : ∀ {body : List Stmt} {fs : List (Str × DE)}, initS (den n).1 D s Cl body = some fs → ∃ t, (∀ X, CxOk D Wx X → PSs X body t) ∧ ∀ B E, B.K = D.K → Imp B E Wx → SimN B E Cl t fs
  | [], fs, h => by
    cases h
    refine ⟨fun Dn σ H => Dn.nx σ H, fun X c => pss_nil, fun B E hB iw F ρ τ σ S H C Dn p dx acc vs h1 e0 hp hl hr nF nC pB nO nd hm k => ?_⟩
    exact k H F ρ C vs h1 hp hl hr nF nC
  | st :: r, fs, h => by
    unfold initS at h
    split at h
    · rename_i e; cases e
    · rename_i x px f pf e pos r' eq
      cases eq
      split at h
      · rename_i c
        simp only [Bool.and_eq_true, decide_eq_true_eq] at c
        obtain ⟨⟨⟨c1, c2⟩, c3⟩, c4⟩ := c
        subst c1
        split at h
        · rename_i l hl
          split at h
          · cases h
          · rename_i na
            cases h
            obtain ⟨t, p, sr⟩ := init_ok n o h0 hv hl
            obtain ⟨te, pe, se⟩ : VE0 D Wx e (if freshB D e = true then dBx ((den n).1 D e) else dKeep ((den n).1 D e)) := by
              split
              · exact ve0_bx ((snd_den n).e D Wx o e)
              · exact (ve_keep ((snd_den n).e D Wx o e)).ve0
            refine ⟨fun Dn σ H => sFld D.K (tVar 0) te f { Dn with nx := t Dn } σ H, fun X c => ?_, fun B E hB iw => sim_n hB iw (o.fld Cl f c4) se (sr B E hB iw) fun q hq z => na ?_⟩
            · rw [← c.K]
              exact pss_cons (ps_fld (pe_nm c h0 hv c2) (pe X c) (sw_none c3 _ _ _)) (p X c)
            · exact List.any_eq_true.mpr ⟨q, hq, by simpa using z⟩
        · cases h
      · cases h
    · cases h
theorem StR.pushNo {B : Base} {F ρ gs gv S H C} {v : Option V} (h : StR B F ρ gs gv S H C) : StR B F ρ (.no :: gs) (v :: gv) S H C := by
  refine ⟨by simp [h.len], fun i sl x e1 e2 => ?_, fun i j m m' a e1 e2 e3 e4 => ?_, fun i m a e1 e2 => ?_, fun i m a e1 e2 => ?_, fun i m a e1 e2 => ?_, h.cel, h.cnd, h.cF, h.cH, h.fT, h.keep, h.fF, h.fN, h.cN, fun i m a e1 e2 => ?_, h.rho, h.nx⟩
  · cases i with
    | zero => cases e1; trivial
    | succ i => exact h.ent i sl x e1 e2
  · cases i with
    | zero => cases e1
    | succ i =>
      cases j with
      | zero => cases e3
      | succ j => rw [h.uniq i j m m' a e1 e2 e3 e4]
  · cases i with
    | zero => cases e1
    | succ i => exact h.nF i m a e1 e2
  · cases i with
    | zero => cases e1
    | succ i => exact h.nC i m a e1 e2
  · cases i with
    | zero => cases e1
    | succ i => exact h.pC i m a e1 e2
  · cases i with
    | zero => cases e1
    | succ i => exact h.oN i m a e1 e2
theorem start_cons {N : List Str} {v : V} {us : List V} : L2.start N (v :: us) = some v :: L2.start (N.drop 1) us := by
  unfold L2.start
  rw [List.map_cons, List.cons_append, List.length_cons, List.length_drop, show N.length - (us.length + 1) = N.length - 1 - us.length by omega]
theorem runI_len {n : Nat} {D : DC} {s Cl : Str} {np : Nat} {body : List Stmt} {ws : List W} {S : Store} (h : runI n D s Cl np body ws S ≠ .no) : ws.length = np := by
  unfold runI at h
  split at h
  · assumption
  · exact (h rfl).elim
theorem runI_shape {n : Nat} {D : DC} {s Cl : Str} {np : Nat} {body : List Stmt} (ws : List W) (S : Store) : runI n D s Cl np body ws S = .no ∨ ∃ ks xs S', runI n D s Cl np body ws S = .ok (.val (.obj Cl ks xs)) S' := by
  unfold runI
  split
  · split
    · split
      · exact .inr ⟨_, _, _, rfl⟩
      · exact .inl rfl
    · exact .inl rfl
  · exact .inl rfl
/-- an __init__ keeps its promise -/
theorem init_fn {n : Nat} {D : DC} {x qual s Cl : Str} {params : Arguments} {body : List Stmt} {f : Addr} {fd : FuncData} {ps ps' : List Str} (o : DOk D) (hc : D.calm = true) (F : FunD D.K x qual params body D.sc [] [] f fd) (S : FnScope D.N ps D.sc) (h0 : D.N[0]? = some s) (hv : visC D s = true) (hp : ps = s :: ps') :
    FnOk D.P D.w D.K D.mg D.base (L2.CX D.P D.w) (D.k + 1) f fd ps (spI D.K Cl (runI n D s Cl ps'.length body) ps'.length) := by
  refine F.ok S (fun vs H Q E h => ?_) fun cdv A outer s1 H vs Q E hr h => ?_
  · obtain ⟨p, dx, us, Hm, ρ, F0, S0, ws, C, rfl, _, _, hl, r, _⟩ := h
    rw [hp, List.length_cons, List.length_cons, ← hl, r.length]
  · obtain ⟨p, dx, us, Hm, ρ, F0, S0, ws, C, rfl, hm, rfl, hl, r, cel, nd, cF, cH, fT, hq⟩ := h
    unfold runI at hq
    rw [if_pos hl] at hq
    cases ei : initS (den n).1 D s Cl body with
    | none => rw [ei] at hq; exact hq.elim
    | some fs =>
      rw [ei] at hq
      dsimp only at hq
      obtain ⟨t, pt, sr⟩ := init_ok n (Wx := fun cls d _ H => E cls d H) o h0 hv ei
      refine ⟨t, pt _ (cx_def S.kind hc hr), ?_⟩
      have h1 := start_str (N := D.N.drop 1) r cel nd cF cH fT
      have h2 := (h1.new (o := .ins (He.ga D.K Cl) dx []) hm).pushNo (v := some (.ref p))
      rw [start_cons]
      refine sr ⟨D.K, Hm, F0, ρ, S0.next, C⟩ (fun _ _ _ => False) rfl (fun _ _ _ _ _ _ _ _ _ z => z.elim) F0 ρ _ _ S0 _ C _ p dx [] [] h2 rfl upd_same rfl Reps.nil (fun z => fT p z hm) (fun z => cH p z hm) (.inr hm) (fun i m e1 e2 => ?_) (fun q _ z => by cases z) (by simp) ?_
      · obtain ⟨a, ea, ow⟩ := h2.ent i _ _ e1 e2
        cases ea
        cases i with
        | zero => cases e1
        | succ i =>
          obtain ⟨a, ea, ow1⟩ := h1.ent i _ _ e1 e2
          cases ea
          exact ow1.tr hm
      · cases ed : dInit fs [] (.no :: startT (D.N.drop 1) ws) S0 with
        | no => rw [ed] at hq; exact hq.elim
        | ex Cn τ S' => rw [ed] at hq; exact hq.elim
        | ok acc τ S' =>
          rw [ed] at hq
          obtain ⟨ks, xs, e, hq⟩ := hq
          cases e
          intro H' F' ρ' C' vs' h3 g1 g2 g3 g4 g5
          have h4 : StR _ F' ρ' [] [] S' H' C' := StR.pops τ _ h3.len (by rw [List.append_nil, List.append_nil]; exact h3)
          exact hq H' F' ρ' C' vs' h4 g1 (by rw [List.length_map, g2]) g3 g4 g5
end
end VM

set_option Elab.async false
set_option linter.all false
/-! VM43: programs. -/
namespace VM
open PySem PySem.Spec L2
open PyProof.Rows hiding St
/-- a def of the text -/
structure PDef where
  name : Str
  fname : Str
  key : Str
  params : Arguments
  body : List Stmt
  scope : Scope
  N : List Str
  ps : List Str
  bx : List Str
/-- a method as a class finds it -/
structure MDef where
  cls : Str
  m : Str
  qual : Str
  d : PDef
/-- a class whose things are values, its __init__ -/
structure CDef where
  name : Str
  qual : Str
  d : PDef
/-- what is told of the text -/
structure Tbl where
  defs : List PDef
  mths : List MDef := []
  cls : List CDef := []
  flds : List (Str × List Str) := []
  gls : List (Str × W)
  free : List Str
  ecs : List Str
  cvs : List (Str × TyN)
  isT : List (TyN × TyN × Bool)
  exm : List (Str × Str × Bool)
  fe : Nat
  fs : Nat
/-- where it runs -/
structure EnvP where
  K : PySem.W.Frag
  P : Program
  w : World
  mg : Str → Option Value
  base : Heap
def Tbl.get (T : Tbl) (x : Str) : Option PDef := T.defs.find? fun d => d.name == x
def Tbl.all (T : Tbl) : List PDef := T.defs ++ T.mths.map (·.d)
def Tbl.getK (T : Tbl) (x : Str) : Option PDef := T.all.find? fun d => d.key == x
def Tbl.fldB (T : Tbl) (C f : Str) : Bool := T.flds.any fun q => q.1 == C && q.2.contains f
def mtOf (ms : List MDef) (F : Str → CF) (m : Str) : Str → Option (CF × Nat) := fun C => (ms.find? fun q => q.cls == C && q.m == m).map fun q => (F q.d.key, q.d.ps.length)
def mkD (V : EnvP) (T : Tbl) (d : PDef) (k : Nat) (fns : Str → Option (CF × Nat)) (mth : Str → Str → Option (CF × Nat)) (mkr : Str → Option (CF × Nat)) : DC :=
  ⟨V.K, V.P, V.w, V.mg, V.base, d.N, d.scope, k, fun _ => true, true, true, fns, fun x => (T.gls.find? fun q => q.1 == x).map (·.2), T.free, T.ecs, T.cvs, T.isT, T.exm, d.bx, mth, T.fldB, mkr⟩
/-- how things are made -/
abbrev mkI (V : EnvP) (T : Tbl) (d : PDef) : DC := mkD V T d 0 (fun _ => none) (fun _ _ => none) (fun _ => none)
def newOf (V : EnvP) (T : Tbl) : Str → Option (CF × Nat) := fun x => (T.cls.find? fun q => q.name == x).map fun q => (runI T.fe (mkI V T q.d) (q.d.ps.headD "") q.name (q.d.ps.drop 1).length q.d.body, (q.d.ps.drop 1).length)
/-- the defs, by depth -/
def cf (V : EnvP) (T : Tbl) : Nat → Str → CF
  | 0, _ => fun _ _ => .no
  | k + 1, x => match T.getK x with
    | some d => runF T.fe T.fs (mkD V T d (k + 2) (fun y => (T.get y).map fun e => (cf V T k e.key, e.ps.length)) (fun C m => mtOf T.mths (cf V T k) m C) (newOf V T)) d.ps.length d.body
    | none => fun _ _ => .no
abbrev fnsOf (V : EnvP) (T : Tbl) (k : Nat) : Str → Option (CF × Nat) := fun y => (T.get y).map fun e => (cf V T k e.key, e.ps.length)
/-- the context of a body that calls at depth k -/
abbrev mkB (V : EnvP) (T : Tbl) (d : PDef) (k : Nat) : DC := mkD V T d (k + 2) (fnsOf V T k) (fun C m => mtOf T.mths (cf V T k) m C) (newOf V T)
/-- what the head must tell -/
structure TOk (V : EnvP) (T : Tbl) : Prop where
  defs : ∀ d ∈ T.defs, ∃ fa fd, FunD V.K d.fname d.fname d.params d.body d.scope [] [] fa fd ∧ V.mg d.name = some (.ref fa) ∧ Binds V.K fd d.ps []
  mths : ∀ q ∈ T.mths, L2.Cls V.K (He.ga V.K q.cls) ∧ ∃ fa fd, L2.Meth V.K (He.ga V.K q.cls) q.m fa ∧ FunD V.K q.d.fname q.qual q.d.params q.d.body q.d.scope [] [] fa fd ∧ Binds V.K fd q.d.ps []
  cls : ∀ q ∈ T.cls, V.mg q.name = some (.ref (He.ga V.K q.name)) ∧ ∃ fa fd, L2.Mk V.K (He.ga V.K q.name) fa ∧ FunD V.K q.d.fname q.qual q.d.params q.d.body q.d.scope [] [] fa fd ∧ Binds V.K fd q.d.ps []
  flds : ∀ q ∈ T.flds, L2.Cls V.K (He.ga V.K q.1) ∧ ∀ f ∈ q.2, L2.NoAttr V.K (He.ga V.K q.1) f
  sco : ∀ d ∈ T.all, FnScope d.N d.ps d.scope
  scoI : ∀ q ∈ T.cls, FnScope q.d.N q.d.ps q.d.scope ∧ ∃ s ps', q.d.ps = s :: ps' ∧ q.d.N[0]? = some s ∧ visC (mkI V T q.d) s = true
  keys : ∀ d ∈ T.all, T.getK d.key = some d
  gls : ∀ q ∈ T.gls, ∃ v u, V.mg q.1 = some u ∧ RelV v u ∧ ∀ g : G, g.K = V.K → Rep g q.2 v
  free : ∀ x ∈ T.free, V.mg x = none
  ecs : ∀ C ∈ T.ecs, V.mg C = some (.ref (He.ga V.K C)) ∧ PySem.W.excIn V.K (He.ga V.K C) He.veBase "ValueError.__new__" = true ∧ PySem.W.keepIn V.K (.ref (He.ga V.K C)) = true ∧ PySem.W.subIn V.K (.ref (He.ga V.K C)) (.type "BaseException") = some true ∧
    PySem.W.typeIn V.K (.ref (He.ga V.K C)) = some (.type "type") ∧ ExcC V.K (He.ga V.K C)
  cvs : ∀ q ∈ T.cvs, match q.2 with
    | .bt n => V.mg q.1 = none ∧ bootBuiltins q.1 = some (.type n) ∧ q.1 ≠ "__name__"
    | .own C => V.mg q.1 = some (.ref (He.ga V.K C))
  isT : ∀ t c b, (t, c, b) ∈ T.isT → PySem.W.kitOne V.K (t.v V.K) (c.v V.K) = some b
  exm : ∀ C D b, (C, D, b) ∈ T.exm → PySem.W.exmOne V.K (.ref (He.ga V.K C)) (.ref (He.ga V.K D)) = some b
theorem get_mem {T : Tbl} {x : Str} {d : PDef} (h : T.get x = some d) : d ∈ T.defs ∧ d.name = x := by
  unfold Tbl.get at h
  have h2 := List.find?_some h
  exact ⟨List.mem_of_find?_eq_some h, by simpa using h2⟩
theorem defs_all {T : Tbl} {d : PDef} (h : d ∈ T.defs) : d ∈ T.all := List.mem_append_left _ h
theorem mths_all {T : Tbl} {q : MDef} (h : q ∈ T.mths) : q.d ∈ T.all := List.mem_append_right _ (List.mem_map_of_mem h)
theorem dok {V : EnvP} {T : Tbl} (o : TOk V T) {d : PDef} (hd : FnScope d.N d.ps d.scope) {k : Nat} {fns : Str → Option (CF × Nat)} {mth : Str → Str → Option (CF × Nat)} {mkr : Str → Option (CF × Nat)} (h : ∀ x f n, fns x = some (f, n) → FOk (mkD V T d k fns mth mkr) x f n)
    (hm : ∀ C m f n, mth C m = some (f, n) → MOk (mkD V T d k fns mth mkr) C m f n) (hk : ∀ x f n, mkr x = some (f, n) → KOk (mkD V T d k fns mth mkr) x f n) : DOk (mkD V T d k fns mth mkr) where
  nd := hd.nd
  fns := h
  gls := fun x w e => by
    obtain ⟨q, h1, rfl⟩ := Option.map_eq_some_iff.mp (show (T.gls.find? fun q => q.1 == x).map (·.2) = some w from e)
    have h2 := List.find?_some h1
    have e2 : q.1 = x := by simpa using h2
    subst e2
    exact o.gls q (List.mem_of_find?_eq_some h1)
  free := o.free
  ecs := fun C hC => by
    obtain ⟨a, b, c, d, e, f⟩ := o.ecs C hC
    exact ⟨a, b, c, d, e, f⟩
  cvs := fun x t hx => by
    have := o.cvs (x, t) hx
    cases t <;> exact this
  isT := o.isT
  exm := o.exm
  mth := hm
  fld := fun C f e => by
    obtain ⟨q, hq, e2⟩ := List.any_eq_true.mp (show (T.flds.any fun q => q.1 == C && q.2.contains f) = true from e)
    rw [Bool.and_eq_true] at e2
    have e3 : q.1 = C := by simpa using e2.1
    have e4 : f ∈ q.2 := by simpa using e2.2
    subst e3
    exact ⟨(o.flds q hq).1, (o.flds q hq).2 f e4⟩
  mkr := hk
theorem new_ok {V : EnvP} {T : Tbl} (o : TOk V T) (D : DC) (e1 : D.K = V.K) (e2 : D.P = V.P) (e3 : D.w = V.w) (e4 : D.mg = V.mg) (e5 : D.base = V.base) (e6 : 2 ≤ D.k) {x : Str} {f : CF} {n : Nat} (h : newOf V T x = some (f, n)) : KOk D x f n := by
  obtain ⟨q, h1, h2⟩ := Option.map_eq_some_iff.mp h
  cases h2
  have hx : q.name = x := by have := List.find?_some h1; simpa using this
  have hm := List.mem_of_find?_eq_some h1
  subst hx
  obtain ⟨hg, fa, fd, M, F, hb⟩ := o.cls q hm
  obtain ⟨sc, s, ps', g1, g2, g3⟩ := o.scoI q hm
  have ok : DOk (mkI V T q.d) := dok o sc (fun x f n h => by cases h) (fun C m f n h => by cases h) (fun x f n h => by cases h)
  refine ⟨e6, ⟨fa, fd, q.d.ps, by rw [e4, e1]; exact hg, by rw [e1]; exact M, by rw [e1]; exact hb, ?_⟩, fun ws S hne => runI_len hne, runI_shape⟩
  rw [e1, e2, e3, e4, e5]
  have hs : q.d.ps.headD "" = s := by rw [g1] <;> rfl
  have hd : q.d.ps.drop 1 = ps' := by rw [g1] <;> rfl
  rw [hs, hd]
  exact init_fn (n := T.fe) (D := mkI V T q.d) ok rfl F sc g2 g3 g1
theorem cf_ok {V : EnvP} {T : Tbl} (o : TOk V T) : ∀ k (D : DC), D.K = V.K → D.P = V.P → D.w = V.w → D.mg = V.mg → D.base = V.base → D.k = k + 2 → (∀ x f n, fnsOf V T k x = some (f, n) → FOk D x f n) ∧ ∀ C m f n, mtOf T.mths (cf V T k) m C = some (f, n) → MOk D C m f n
  | 0, D, e1, e2, e3, e4, e5, e6 => by
    refine ⟨fun x f n h => ?_, fun C m f n h => ?_⟩
    · obtain ⟨d, h1, h2⟩ := Option.map_eq_some_iff.mp h
      cases h2
      obtain ⟨hm, hn⟩ := get_mem h1
      subst hn
      obtain ⟨fa, fd, F, hg, hb⟩ := o.defs d hm
      refine ⟨⟨fa, fd, d.ps, by rw [e4]; exact hg, by rw [e1]; exact F.kp, by rw [e1]; exact hb, ⟨fun vs H Q E h => spW_len h, fun A outer s H args us vs Q E hr he hbd hv hs => ?_⟩⟩, fun ws S q => (q rfl).elim⟩
      obtain ⟨_, _, _, _, _, _, _, _, _, _, _, _, z⟩ := hs
      exact z.elim
    · obtain ⟨q, h1, h2⟩ := Option.map_eq_some_iff.mp h
      cases h2
      have hx := List.find?_some h1
      rw [Bool.and_eq_true] at hx
      have hc : q.cls = C := by simpa using hx.1
      have hmm : q.m = m := by simpa using hx.2
      have hm := List.mem_of_find?_eq_some h1
      subst hc
      subst hmm
      obtain ⟨cl, fa, fd, M, F, hb⟩ := o.mths q hm
      refine ⟨by rw [e1]; exact cl, ⟨fa, fd, q.d.ps, by rw [e1]; exact M, by rw [e1]; exact hb, ⟨fun vs H Q E h => spW_len h, fun A outer s H args us vs Q E hr he hbd hv hs => ?_⟩⟩, fun ws S q => (q rfl).elim⟩
      obtain ⟨_, _, _, _, _, _, _, _, _, _, _, _, z⟩ := hs
      exact z.elim
  | k + 1, D, e1, e2, e3, e4, e5, e6 => by
    have ec : ∀ d ∈ T.all, cf V T (k + 1) d.key = runF T.fe T.fs (mkB V T d k) d.ps.length d.body := fun d hm => by
      show (match T.getK d.key with
        | some d => runF T.fe T.fs (mkB V T d k) d.ps.length d.body
        | none => fun _ _ => .no) = _
      rw [o.keys d hm]
    have ok : ∀ d ∈ T.all, DOk (mkB V T d k) := fun d hm => dok o (o.sco d hm) (cf_ok o k _ rfl rfl rfl rfl rfl rfl).1 (cf_ok o k _ rfl rfl rfl rfl rfl rfl).2 fun x f n h => new_ok o _ rfl rfl rfl rfl rfl (Nat.le_add_left _ _) h
    refine ⟨fun x f n h => ?_, fun C m f n h => ?_⟩
    · obtain ⟨d, h1, h2⟩ := Option.map_eq_some_iff.mp h
      cases h2
      obtain ⟨hm, hn⟩ := get_mem h1
      subst hn
      obtain ⟨fa, fd, F, hg, hb⟩ := o.defs d hm
      have q := def_ok (n := T.fe) (m := T.fs) (D := mkB V T d k) (ps := d.ps) (ok d (defs_all hm)) rfl F (o.sco d (defs_all hm))
      refine ⟨⟨fa, fd, d.ps, by rw [e4]; exact hg, by rw [e1]; exact F.kp, by rw [e1]; exact hb, ?_⟩, fun ws S hne => ?_⟩
      · rw [e1, e2, e3, e4, e5, e6, ec d (defs_all hm)]
        exact q
      · rw [ec d (defs_all hm)] at hne
        exact runF_len hne
    · obtain ⟨q, h1, h2⟩ := Option.map_eq_some_iff.mp h
      cases h2
      have hx := List.find?_some h1
      rw [Bool.and_eq_true] at hx
      have hc : q.cls = C := by simpa using hx.1
      have hmm : q.m = m := by simpa using hx.2
      have hm := List.mem_of_find?_eq_some h1
      subst hc
      subst hmm
      obtain ⟨cl, fa, fd, M, F, hb⟩ := o.mths q hm
      have z := def_ok (n := T.fe) (m := T.fs) (D := mkB V T q.d k) (ps := q.d.ps) (ok q.d (mths_all hm)) rfl F (o.sco q.d (mths_all hm))
      refine ⟨by rw [e1]; exact cl, ⟨fa, fd, q.d.ps, by rw [e1]; exact M, by rw [e1]; exact hb, ?_⟩, fun ws S hne => ?_⟩
      · rw [e1, e2, e3, e4, e5, e6, ec q.d (mths_all hm)]
        exact z
      · rw [ec q.d (mths_all hm)] at hne
        exact runF_len hne
end VM

set_option Elab.async false
set_option linter.all false
/-! VM19: the head tells what a text's table needs; a law's end. -/
namespace VM
open PySem PySem.Spec L2
open PyProof.Rows hiding St

/-! ### a Hook by a test of the written part -/
abbrev AlB : Type := Bool × List He.FnW
def obsB (bq : PySem.W.Frag → Bool) (fn : List He.DefD) (K : PySem.W.Frag) : AlB := (bq K && fn.all fun d => d.ok K, fn.map fun d => He.fnW K d.at_)
def valB (fn : List He.DefD) : AlB := (true, fn.map He.DefD.val)
def SaysB (bq : PySem.W.Frag → Bool) (fn : List He.DefD) (K : PySem.W.Frag) : Prop := obsB bq fn K = valB fn
def obsBG (n : Nat) (bq : PySem.W.Frag → Bool) (fn : List He.DefD) (g : Addr → Option Obj) : AlB := obsB bq fn (He.frG g (He.asD g n))
def hookB (n : Nat) (bq : PySem.W.Frag → Bool) (fn : List He.DefD) : PySem.W.Hook where
  α := AlB
  obs := fun s => obsBG n bq fn s.heap.get?
  val := fun _ => valB fn
  says := fun _ h => ∃ K : PySem.W.Frag, K.In h ∧ SaysB bq fn K
  of := fun _ _ e => ⟨_, He.frG_in, e⟩
  keeps := fun _ _ _ ⟨K, hK, c⟩ k => ⟨K, PySem.W.Frag.In.keeps hK k, c⟩
theorem obsBG_eq {n : Nat} {bq : PySem.W.Frag → Bool} {fn : List He.DefD} {g : Addr → Option Obj} {s : Shared} (h : ∀ a, g a = s.heap.get? a) : obsBG n bq fn g = (hookB n bq fn).obs s := by
  have e : g = s.heap.get? := funext h
  rw [e] <;> rfl
/-- .. at so many addresses -/
def obsBA (as : List Addr) (bq : PySem.W.Frag → Bool) (fn : List He.DefD) (g : Addr → Option Obj) : AlB := obsB bq fn (He.frG g as)
def hookA (as : List Addr) (bq : PySem.W.Frag → Bool) (fn : List He.DefD) : PySem.W.Hook where
  α := AlB
  obs := fun s => obsBA as bq fn s.heap.get?
  val := fun _ => valB fn
  says := fun _ h => ∃ K : PySem.W.Frag, K.In h ∧ SaysB bq fn K
  of := fun _ _ e => ⟨_, He.frG_in, e⟩
  keeps := fun _ _ _ ⟨K, hK, c⟩ k => ⟨K, PySem.W.Frag.In.keeps hK k, c⟩
theorem obsBA_eq {as : List Addr} {bq : PySem.W.Frag → Bool} {fn : List He.DefD} {g : Addr → Option Obj} {s : Shared} (h : ∀ a, g a = s.heap.get? a) : obsBA as bq fn g = (hookA as bq fn).obs s := by
  have e : g = s.heap.get? := funext h
  rw [e] <;> rfl
section
variable {bq : PySem.W.Frag → Bool} {fn : List He.DefD} {K : PySem.W.Frag}
theorem SaysB.q (c : SaysB bq fn K) : bq K = true := (He.ba (show (bq K && fn.all fun d => d.ok K) = true from congrArg (fun z : AlB => z.1) c)).1
theorem SaysB.def_ (c : SaysB bq fn K) {d : He.DefD} (h : d ∈ fn) : ∃ fd, FunD K d.name d.qual d.params d.body d.scope (d.dvs K) (d.kws K) (He.fAd K d.at_) fd := by
  have c2 := (He.ba (show (bq K && fn.all fun d => d.ok K) = true from congrArg (fun z : AlB => z.1) c)).2
  have e : fn.map (fun d => He.fnW K d.at_) = fn.map He.DefD.val := congrArg (fun z : AlB => z.2) c
  have e2 : He.fnW K d.at_ = d.val := by
    have := List.map_inj_left.mp e d h
    exact this
  exact He.DefD.funD e2 (List.all_eq_true.mp c2 d h)
end
/-! ### constants -/
mutual
def wB (K : PySem.W.Frag) : W → Value → Bool
  | .non, .none => true
  | .bl b, .bool c => b == c
  | .int i, .int j _ => decide (i = j)
  | .str x, .str y _ => decide (x = y) && (decide (x.length ≤ strLine) && PyData.strOk x)
  | .tup ws, .ref a => (match K.lookup a with
    | some ⟨.type c, _, .seq its _, _⟩ => decide (c = "tuple") && (decide (its.size ≤ sizeLine) && wsB K ws its.toList)
    | _ => false)
  | _, _ => false
def wsB (K : PySem.W.Frag) : List W → List Value → Bool
  | [], [] => true
  | w :: ws, u :: us => wB K w u && wsB K ws us
  | _, _ => false
end
mutual
theorem wB_ok {K : PySem.W.Frag} : ∀ (w : W) (u : Value), wB K w u = true → ∃ v, RelV v u ∧ ∀ g : G, g.K = K → Rep g w v
  | .non, u, h => by
    cases u with
    | none => exact ⟨.non, rfl, fun g _ => repNon⟩
    | _ => simp [wB] at h
  | .bl b, u, h => by
    cases u with
    | bool c =>
      have e : b = c := by simpa [wB] using h
      subst e
      exact ⟨.bl b, rfl, fun g _ => repBl b⟩
    | _ => simp [wB] at h
  | .int i, u, h => by
    cases u with
    | int j t =>
      have e : i = j := by simpa [wB] using h
      subst e
      exact ⟨.int i, ⟨t, rfl⟩, fun g _ => repInt i⟩
    | _ => simp [wB] at h
  | .str x, u, h => by
    cases u with
    | str y t =>
      unfold wB at h
      rw [Bool.and_eq_true, Bool.and_eq_true, decide_eq_true_eq, decide_eq_true_eq] at h
      obtain ⟨e, h1, h2⟩ := h
      subst e
      exact ⟨.str x, ⟨t, rfl⟩, fun g _ => repStr h1 h2⟩
    | _ => simp [wB] at h
  | .tup ws, u, h => by
    cases u with
    | ref a =>
      unfold wB at h
      split at h
      · rename_i c dd its n sl hk
        rw [Bool.and_eq_true, Bool.and_eq_true, decide_eq_true_eq, decide_eq_true_eq] at h
        obtain ⟨e, h1, h2⟩ := h
        subst e
        obtain ⟨vs, r, rp⟩ := wsB_ok ws its.toList h2
        refine ⟨.ref a, rfl, fun g hg => repTup (.inr ⟨_, its, n, by rw [hg]; exact hk, rfl, rfl, h1, r⟩) (rp g hg)⟩
      · cases h
    | _ => simp [wB] at h
  | .lst _, u, h => by cases u <;> simp [wB] at h
  | .dic _ _, u, h => by cases u <;> simp [wB] at h
  | .obj _ _ _, u, h => by cases u <;> simp [wB] at h
  | .exc _, u, h => by cases u <;> simp [wB] at h
  | .hnd _, u, h => by cases u <;> simp [wB] at h
theorem wsB_ok {K : PySem.W.Frag} : ∀ (ws : List W) (us : List Value), wsB K ws us = true → ∃ vs, Vals vs us ∧ ∀ g : G, g.K = K → Reps g ws vs
  | [], us, h => by
    cases us with
    | nil => exact ⟨[], .nil, fun g _ => Reps.nil⟩
    | cons _ _ => simp [wsB] at h
  | w :: ws, us, h => by
    cases us with
    | nil => simp [wsB] at h
    | cons u us =>
      unfold wsB at h
      rw [Bool.and_eq_true] at h
      obtain ⟨v, r1, p1⟩ := wB_ok w u h.1
      obtain ⟨vs, r2, p2⟩ := wsB_ok ws us h.2
      exact ⟨v :: vs, .cons r1 r2, fun g hg => Reps.cons (p1 g hg) (p2 g hg)⟩
end
/-! ### the test of a table -/
def excB (K : PySem.W.Frag) (D : Addr) : Bool := decide (PySem.W.findIn K (.ref D) "__getattribute__" = some (some (.builtin "BaseException.__getattribute__"))) && (decide (PySem.W.findIn K (.ref D) "__getattr__" = some none) && (decide (PySem.W.subIn K (.ref D) (.type "BaseException") = some true) && (PySem.W.hasDictIn K D &&
  (decide (PySem.W.findIn K (.ref D) "__class__" = some (some (.builtin "object.__class__"))) && (decide (PySem.W.specialIn K (.builtin "object.__class__") "__get__" = some (some (.builtin "getset_descriptor.__get__"))) && (decide (PySem.W.takesIn K (.builtin "object.__class__") = some true) &&
    decide (PySem.W.mroIn K D (.type "object") = some true)))))))
theorem excB_ok {K : PySem.W.Frag} {D : Addr} (h : excB K D = true) : ExcC K D := by
  unfold excB at h
  simp only [Bool.and_eq_true, decide_eq_true_eq] at h
  obtain ⟨a, b, c, d, e, f, g, i⟩ := h
  exact ⟨a, b, c, d, e, f, g, i⟩
def Tbl.chk (T : Tbl) (K : PySem.W.Frag) : Bool := (T.defs.all fun d => He.Fa.ok K (.glo d.name)) && ((T.gls.all fun q => (match PySem.W.nsIn K mainGlobals q.1 with
    | some (some u) => wB K q.2 u
    | _ => false)) && ((T.free.all fun x => He.Fa.ok K (.free x)) && ((T.ecs.all fun x => He.Fa.ok K (.glo x) && (He.Fa.ok K (.exc x) && excB K (He.ga K x))) && ((T.cvs.all fun q => (match q.2 with
    | .bt _ => He.Fa.ok K (.free q.1)
    | .own C => He.eqO (PySem.W.nsIn K mainGlobals q.1) (some (some (.ref (He.ga K C)))))) && ((T.isT.all fun q => decide (PySem.W.kitOne K (q.1.v K) (q.2.1.v K) = some q.2.2)) &&
    ((T.exm.all fun q => decide (PySem.W.exmOne K (.ref (He.ga K q.1)) (.ref (He.ga K q.2.1)) = some q.2.2)) && ((T.mths.all fun q => He.Fa.ok K (.cls q.cls) && He.Fa.ok K (.meth q.cls q.m)) && ((T.cls.all fun q => He.Fa.ok K (.glo q.name) && He.Fa.ok K (.mkr q.name)) &&
    T.flds.all fun q => He.Fa.ok K (.cls q.1) && q.2.all fun f => He.Fa.ok K (.noat q.1 f)))))))))
def PDef.dd (d : PDef) : He.DefD := ⟨(d.name, none), d.fname, d.fname, d.params, d.body, d.scope, [], []⟩
def MDef.dd (q : MDef) : He.DefD := ⟨(q.cls, some q.m), q.d.fname, q.qual, q.d.params, q.d.body, q.d.scope, [], []⟩
def CDef.dd (q : CDef) : He.DefD := ⟨(q.name, some "__init__"), q.d.fname, q.qual, q.d.params, q.d.body, q.d.scope, [], []⟩
def Tbl.fn (T : Tbl) : List He.DefD := T.defs.map PDef.dd ++ (T.mths.map MDef.dd ++ T.cls.map CDef.dd)
/-- what is to be seen of the table alone -/
structure Tbl.Fine (T : Tbl) : Prop where
  sco : ∀ d ∈ T.all, FnScope d.N d.ps d.scope
  scoI : ∀ q ∈ T.cls, FnScope q.d.N q.d.ps q.d.scope ∧ ∃ s ps', q.d.ps = s :: ps' ∧ q.d.N[0]? = some s ∧ (match q.d.scope.names.lookup s with
    | some .local => true
    | some .cell => true
    | some .free => true
    | _ => false) = true
  keys : ∀ d ∈ T.all, T.getK d.key = some d
  binds : ∀ d ∈ T.defs, ∀ (kV doc pm : Value) (an : Option Addr) (cdv ct : Value) (us : List Value), us.length = d.ps.length → bindArgs (PySem.W.fnOf d.fname d.fname d.params d.body d.scope .none kV doc pm an cdv ct) ⟨us, []⟩ = pure (d.ps.zip us)
  bindsM : ∀ q ∈ T.mths, ∀ (kV doc pm : Value) (an : Option Addr) (cdv ct : Value) (us : List Value), us.length = q.d.ps.length → bindArgs (PySem.W.fnOf q.d.fname q.qual q.d.params q.d.body q.d.scope .none kV doc pm an cdv ct) ⟨us, []⟩ = pure (q.d.ps.zip us)
  bindsI : ∀ q ∈ T.cls, ∀ (kV doc pm : Value) (an : Option Addr) (cdv ct : Value) (us : List Value), us.length = q.d.ps.length → bindArgs (PySem.W.fnOf q.d.fname q.qual q.d.params q.d.body q.d.scope .none kV doc pm an cdv ct) ⟨us, []⟩ = pure (q.d.ps.zip us)
  boot : ∀ q ∈ T.cvs, ∀ n, q.2 = .bt n → bootBuiltins q.1 = some (.type n) ∧ q.1 ≠ "__name__"
theorem tok_of {T : Tbl} {K : PySem.W.Frag} {h : Heap} {mg : Str → Option Value} (X : K.In h) (G : h.Ns mainGlobals mg) (c : SaysB T.chk T.fn K) (f : T.Fine) (P : Program) (w : World) (base : Heap) : TOk ⟨K, P, w, mg, base⟩ T := by
  have q := c.q
  unfold Tbl.chk at q
  simp only [Bool.and_eq_true, List.all_eq_true] at q
  obtain ⟨q1, q2, q3, q4, q5, q6, q7, q8, q9, q10⟩ := q
  refine ⟨fun d hd => ?_, fun z hz => ?_, fun z hz => ?_, fun z hz => ?_, f.sco, fun z hz => ?_, f.keys, fun g hg => ?_, fun x hx => He.free_ok X G (q3 x hx), fun C hC => ?_, fun z hz => ?_, fun t c b hz => ?_, fun C D b hz => ?_⟩
  · obtain ⟨fd, F⟩ := c.def_ (d := d.dd) (List.mem_append_left _ (List.mem_map_of_mem hd))
    have F : FunD K d.fname d.fname d.params d.body d.scope [] [] (He.ga K d.name) fd := F
    exact ⟨_, fd, F, He.glo_ok X G (q1 d hd), F.bindsN (f.binds d hd)⟩
  · obtain ⟨fd, F⟩ := c.def_ (d := z.dd) (List.mem_append_right _ (List.mem_append_left _ (List.mem_map_of_mem hz)))
    have F : FunD K z.d.fname z.qual z.d.params z.d.body z.d.scope [] [] (He.ma K (He.ga K z.cls) z.m) fd := F
    exact ⟨He.cls_ok (q8 z hz).1, _, fd, He.meth_ok (q8 z hz).2, F, F.bindsN (f.bindsM z hz)⟩
  · obtain ⟨fd, F⟩ := c.def_ (d := z.dd) (List.mem_append_right _ (List.mem_append_right _ (List.mem_map_of_mem hz)))
    have F : FunD K z.d.fname z.qual z.d.params z.d.body z.d.scope [] [] (He.ma K (He.ga K z.name) "__init__") fd := F
    exact ⟨He.glo_ok X G (q9 z hz).1, _, fd, He.mkr_ok (q9 z hz).2, F, F.bindsN (f.bindsI z hz)⟩
  · exact ⟨He.cls_ok (q10 z hz).1, fun g hg => He.noat_ok ((q10 z hz).2 g hg)⟩
  · exact f.scoI z hz
  · have z := q2 g hg
    split at z
    · rename_i u hu
      obtain ⟨v, r, rp⟩ := wB_ok _ _ z
      exact ⟨v, u, PySem.W.mg_of X G hu, r, rp⟩
    · cases z
  · obtain ⟨a, b, c⟩ := q4 C hC
    obtain ⟨x1, x2, x3, x4⟩ := He.exc_ok b
    exact ⟨He.glo_ok X G a, x1, x2, x3, x4, excB_ok c⟩
  · have y := q5 z hz
    obtain ⟨x, t⟩ := z
    cases t with
    | bt n =>
      obtain ⟨b1, b2⟩ := f.boot (x, .bt n) hz n rfl
      exact ⟨He.free_ok X G y, b1, b2⟩
    | own C => exact PySem.W.mg_of X G (He.eqO_ok y)
  · exact of_decide_eq_true (q6 (t, c, b) hz)
  · exact of_decide_eq_true (q7 (C, D, b) hz)
/-! ### a law's end -/
def S0 : Store := ⟨[], 0⟩
theorem walk_V {T : Tbl} {l : PySem.W.OpenLaw} {n k : Nat} {q : Program} {loose : List Str} {XP : (Str → Option Value) → Heap → Prop} {d : DefRec} {dl : PDef} {x : Str} {as : List Addr}
    (hn : l.most = some n) (hn2 : n ≤ seqLine) (hdf : d.params.defaults = []) (hr : Room (k + 2) callerA) (f : T.Fine) (hd : T.get d.name = some dl) (hps : dl.ps = [x])
    (law : ∀ (V : EnvP) (ns : List Int), ns.length ≤ n → ∃ S', cf V T k dl.key [.lst (ns.map .int)] S0 = .ok (.val (.bl true)) S') :
    PySem.W.WalkO q loose XP (hookA as T.chk T.fn).says l.row.toRowW d [] (fun f vs => PySem.call f vs) := by
  refine Att.attach_call hn hdf fun w s₀ s₁ mg mb fa o pm cd doc a vs ns G Y ho hd' hcd hmg hobj hints hlen hg => ?_
  obtain ⟨K, KX, c⟩ := Y
  have TO : ∀ base : Heap, TOk ⟨K, l.prog, w, mg, base⟩ T := fun base => tok_of KX G.T.g c f l.prog w base
  obtain ⟨hm, hnm⟩ := get_mem hd
  -- the function object is one for every base
  obtain ⟨fd0, F0⟩ := c.def_ (d := dl.dd) (List.mem_append_left _ (List.mem_map_of_mem hm))
  have F0 : FunD K dl.fname dl.fname dl.params dl.body dl.scope [] [] (He.ga K dl.name) fd0 := F0
  have hga : mg dl.name = some (.ref (He.ga K dl.name)) := by
    have q := c.q
    unfold Tbl.chk at q
    simp only [Bool.and_eq_true, List.all_eq_true] at q
    exact He.glo_ok KX G.T.g (q.1 dl hm)
  have efa : fa = He.ga K dl.name := by
    have h1 : mg d.name = some (.ref fa) := hmg
    rw [← hnm, hga] at h1
    cases h1
    rfl
  subst efa
  have run : ∀ base : Heap, FnOk l.prog w K mg base (L2.CX l.prog w) (k + 2) (He.ga K dl.name) fd0 [x] (spW K (cf ⟨K, l.prog, w, mg, base⟩ T k dl.key) 1) := fun base => by
    cases k with
    | zero =>
      refine ⟨fun vs H Q E h => spW_len h, fun A outer s H args us vs Q E hr he hbd hv hs => ?_⟩
      obtain ⟨_, _, _, _, _, _, _, _, _, _, _, _, z⟩ := hs
      exact z.elim
    | succ k =>
      have ec : cf ⟨K, l.prog, w, mg, base⟩ T (k + 1) dl.key = runF T.fe T.fs (mkB ⟨K, l.prog, w, mg, base⟩ T dl k) dl.ps.length dl.body := by
        show (match T.getK dl.key with
          | some d => runF T.fe T.fs (mkB ⟨K, l.prog, w, mg, base⟩ T d k) d.ps.length d.body
          | none => fun _ _ => .no) = _
        rw [f.keys dl (defs_all hm)]
      have ok : DOk (mkB ⟨K, l.prog, w, mg, base⟩ T dl k) := dok (TO base) (f.sco dl (defs_all hm)) (cf_ok (TO base) k _ rfl rfl rfl rfl rfl rfl).1 (cf_ok (TO base) k _ rfl rfl rfl rfl rfl rfl).2 fun x f n h => new_ok (TO base) _ rfl rfl rfl rfl rfl (Nat.le_add_left _ _) h
      have q := def_ok (n := T.fe) (m := T.fs) (D := mkB ⟨K, l.prog, w, mg, base⟩ T dl k) (ps := dl.ps) ok rfl F0 (f.sco dl (defs_all hm))
      rw [ec]
      rw [hps] at q ⊢
      exact q
  refine law_call (sp := fun vs H Q E => ∀ base : Heap, spW K (cf ⟨K, l.prog, w, mg, base⟩ T k dl.key) 1 vs H Q E) (x := x) KX G.T.g G.T.b G.T.builtins G.T.nolimit hg hobj hints (Nat.le_trans hlen (Nat.le_trans hn2 seqLine_le)) hr
    (fun base _ _ => (run base).imp fun vs H Q E h => h base) (fun s u => ?_) (fun H hO hS base => ?_) fun H e s' => ?_
  · have b := FunD.bindsA (ps := [x]) F0 (fun kV doc pm an cdv ct us hl => by
      have := f.binds dl hm kV doc pm an cdv ct us (by rw [hps]; exact hl)
      rw [hps] at this
      exact this) s [u] rfl
    exact b
  · obtain ⟨S', e⟩ := law ⟨K, l.prog, w, mg, base⟩ ns hlen
    have st : StL ⟨K, fun _ => 0, S0.next, fun b => b = a ∧ H a ≠ none, H⟩ a (ns.map V.int) := by
      rcases hS with (h | ⟨ob, h⟩) | ⟨ob, its, m, h1, h2, h3, h4, h5, h6⟩
      · exact .inl ⟨⟨rfl, by rw [h]; simp⟩, h⟩
      · exact .inr (.inl ⟨ob, h⟩)
      · have := KX _ _ h1
        rw [hobj] at this
        cases this
        have h4 : Data.seq vs.toArray 0 = Data.seq its m := h4
        cases h4
        refine .inr (.inr ⟨vs, 0, h1, by simpa using h5, by simpa using h6⟩)
    refine ⟨fun _ => 0, fun b => b = a ∧ H a ≠ none, S0, [.lst (ns.map .int)], [], rfl, Reps.cons (by unfold Rep; exact ⟨a, _, rfl, st, ints_reps ns⟩) Reps.nil, .nil, List.nodup_nil, fun _ h => by simp at h, fun _ h => by simp at h, fun b h => by rw [h.1]; exact h.2, ?_⟩
    rw [e]
    intro v H' F' ρ' C' hst
    obtain ⟨v', ev, r⟩ := StR.top hst
    cases ev
    unfold Rep at r
    exact r
  · rintro ⟨_, _, _, _, _, _, _, _, _, _, _, _, z⟩
    exact z
end VM

set_option Elab.async false
set_option linter.all false
/-! VM20: plain laws of the readings. -/
namespace VM
open PySem

def outF : O → RF
  | .nx _ S => .ok (.val .non) S
  | .rt r _ S => .ok r S
  | .ex C _ S => .ex C S
  | _ => .no
theorem runF_out {n m : Nat} {D : DC} {np : Nat} {body : List Stmt} {ws : List W} {S : Store} (h : ws.length = np) : runF n m D np body ws S = outF (blkS (denS n m) D body (startT D.N ws) S) := by
  unfold runF
  rw [if_pos h]
  cases blkS (denS n m) D body (startT D.N ws) S <;> rfl
@[simp] theorem R.bind_ok {α β : Type} {a : α} {τ : Tau} {S : Store} {f : α → Tau → Store → R β} : (R.ok a τ S).bind f = f a τ S := (rfl)
@[simp] theorem R.bind_ex {α β : Type} {C : Str} {τ : Tau} {S : Store} {f : α → Tau → Store → R β} : (R.ex C τ S : R α).bind f = .ex C τ S := (rfl)
@[simp] theorem R.thenS_ok {α : Type} {a : α} {τ : Tau} {S : Store} {f : α → Tau → Store → O} : (R.ok a τ S).thenS f = f a τ S := (rfl)
@[simp] theorem R.thenS_ex {α : Type} {C : Str} {τ : Tau} {S : Store} {f : α → Tau → Store → O} : (R.ex C τ S : R α).thenS f = .ex C τ S := (rfl)
@[simp] theorem R.of_some {α : Type} {a : α} {τ : Tau} {S : Store} : R.of (some a) τ S = .ok a τ S := (rfl)
@[simp] theorem R.noEx_ok {α : Type} {a : α} {τ : Tau} {S : Store} : (R.ok a τ S).noEx = .ok a τ S := (rfl)
@[simp] theorem Sl.rd_val {w : W} : (Sl.val w).rd = some w := (rfl)
@[simp] theorem Sl.rd_own {m : MO} : (Sl.own m).rd = some m.fz := (rfl)
@[simp] theorem Sl.rd_pk {w : W} : (Sl.pk w).rd = some w := (rfl)
@[simp] theorem Sl.kp_val {w : W} : (Sl.val w).kp = some w := (rfl)
@[simp] theorem Sl.kp_own {m : MO} : (Sl.own m).kp = some m.fz := (rfl)
@[simp] theorem MO.fz_lst {xs : List W} : (MO.lst xs).fz = .lst xs := (rfl)
@[simp] theorem Sl.out_val {w : W} : (Sl.val w).out = some (.val w) := (rfl)
@[simp] theorem Sl.out_own {w : MO} : (Sl.own w).out = some (.own w) := (rfl)
@[simp] theorem dConst_eq {w : W} {τ : Tau} {S : Store} : dConst w τ S = .ok (.val w) τ S := (rfl)
@[simp] theorem dSkip_eq {τ : Tau} {S : Store} : dSkip τ S = .nx τ S := (rfl)
@[simp] theorem dRaise_eq {C : Str} {τ : Tau} {S : Store} : dRaise C τ S = .ex C τ S := (rfl)
@[simp] theorem dKeep_eq {a : DE} {τ : Tau} {S : Store} : dKeep a τ S = (a τ S).bind fun x τ S => R.of (x.kp.map .val) τ S := (rfl)
@[simp] theorem dNil_eq {τ : Tau} {S : Store} : dNil τ S = .ok [] τ S := (rfl)
@[simp] theorem dCons_eq {a : DE} {r : DA} {τ : Tau} {S : Store} : dCons a r τ S = (a τ S).bind fun x τ S => (r τ S).bind fun xs τ S => .ok (x :: xs) τ S := (rfl)
@[simp] theorem dSeq_eq {a b : DS} {τ : Tau} {S : Store} : dSeq a b τ S = match a τ S with
  | .nx τ S => b τ S
  | o => o := (rfl)
@[simp] theorem dExpr_eq {d : DE} {τ : Tau} {S : Store} : dExpr d τ S = (d τ S).thenS fun _ τ S => .nx τ S := (rfl)
@[simp] theorem dRet_eq {d : DE} {τ : Tau} {S : Store} : dRet d τ S = (d τ S).thenS fun r τ S => match r.out with
  | some r => .rt r τ S
  | none => .no := (rfl)
@[simp] theorem dIfS_eq {c : DT} {a b : DS} {τ : Tau} {S : Store} : dIfS c a b τ S = (c τ S).thenS fun k τ S => match k with
  | true => a τ S
  | false => b τ S := (rfl)
@[simp] theorem dIf_eq {c : DT} {a b : DE} {τ : Tau} {S : Store} : dIf c a b τ S = (c τ S).bind fun k τ S => match k with
  | true => a τ S
  | false => b τ S := (rfl)
@[simp] theorem dNotT_eq {d : DT} {τ : Tau} {S : Store} : dNotT d τ S = (d τ S).bind fun b τ S => .ok (!b) τ S := (rfl)
@[simp] theorem dAndT_eq {a b : DT} {τ : Tau} {S : Store} : dAndT a b τ S = (a τ S).bind fun k τ S => match k with
  | true => b τ S
  | false => .ok false τ S := (rfl)
@[simp] theorem dOrT_eq {a b : DT} {τ : Tau} {S : Store} : dOrT a b τ S = (a τ S).bind fun k τ S => match k with
  | true => .ok true τ S
  | false => b τ S := (rfl)
@[simp] theorem dAndV_eq {a b : DE} {τ : Tau} {S : Store} : dAndV a b τ S = (a τ S).bind fun x τ S => match x with
  | .val (.bl true) => b τ S
  | .val (.bl false) => .ok (.val (.bl false)) τ S
  | _ => .no := (rfl)
@[simp] theorem dOrV_eq {a b : DE} {τ : Tau} {S : Store} : dOrV a b τ S = (a τ S).bind fun x τ S => match x with
  | .val (.bl true) => .ok (.val (.bl true)) τ S
  | .val (.bl false) => b τ S
  | _ => .no := (rfl)
@[simp] theorem dNotV_eq {a : DE} {τ : Tau} {S : Store} : dNotV a τ S = (a τ S).bind fun x τ S => match x with
  | .val (.bl k) => .ok (.val (.bl (!k))) τ S
  | _ => .no := (rfl)
@[simp] theorem dNeg_eq {a : DE} {τ : Tau} {S : Store} : dNeg a τ S = (a τ S).bind fun x τ S => match x with
  | .val (.int k) => .ok (.val (.int (-k))) τ S
  | _ => .no := (rfl)
@[simp] theorem dTest_eq {d : DE} {τ : Tau} {S : Store} : dTest d τ S = (d τ S).bind fun x τ S => R.of (match x with
  | .val (.bl b) => some b
  | _ => none) τ S := (rfl)
@[simp] theorem dIsi_eq {ecs : List Str} {isT : List (TyN × TyN × Bool)} {c : TyN} {d : DE} {τ : Tau} {S : Store} : dIsi ecs isT c d τ S = (d τ S).bind fun x τ S => R.of (((x.rdS S).bind fun w => isLook ecs isT w c).map fun b => .val (.bl b)) τ S := (rfl)
@[simp] theorem dOp2_eq {α : Type} {f : W → W → Option α} {a b : DE} {τ : Tau} {S : Store} : dOp2 f a b τ S = (a τ S).bind fun x τ S => (b τ S).bind fun y τ S => R.of (match x.rdS S, y.rdS S with
  | some x, some y => f x y
  | _, _ => none) τ S := (rfl)
@[simp] theorem dCmp_eq {f : W → W → Option Bool} {a b : DE} {τ : Tau} {S : Store} : dCmp f a b τ S = dOp2 (fun x y => (f x y).map fun k => .val (.bl k)) a b τ S := (rfl)
@[simp] theorem dCmpT_eq {f : W → W → Option Bool} {a b : DE} {τ : Tau} {S : Store} : dCmpT f a b τ S = dOp2 f a b τ S := (rfl)
@[simp] theorem dChain_eq {f f' : W → W → Option Bool} {a b c : DE} {τ : Tau} {S : Store} : dChain f f' a b c τ S = (a τ S).bind fun x τ S => (b τ S).bind fun y τ S => (R.of (match x.rdS S, y.rdS S with
    | some x, some y => f x y
    | _, _ => none) τ S).bind fun k τ S => match k with
      | false => .ok (.val (.bl false)) τ S
      | true => (c τ S).bind fun z τ S => R.of (match y.rdS S, z.rdS S with
        | some y, some z => (f' y z).map fun k => .val (.bl k)
        | _, _ => none) τ S := (rfl)
@[simp] theorem dCall_eq {f : List W → Option Sl} {a : DA} {τ : Tau} {S : Store} : dCall f a τ S = (a τ S).bind fun rs τ S => R.of ((rdAll S rs).bind f) τ S := (rfl)
@[simp] theorem dMeth_eq {T : String} {f : PF} {o : DE} {args : DA} {τ : Tau} {S : Store} : dMeth T f o args τ S = (o τ S).bind fun x τ S => (R.of ((x.rdS S).filter (tyW T)) τ S).bind fun _ τ S => (args τ S).bind fun rs τ S => R.of ((x.rdS S).bind fun w => (rdAll S rs).bind (f w)) τ S := (rfl)
@[simp] theorem dCallF_eq {f : CF} {a : DA} {τ : Tau} {S : Store} : dCallF f a τ S = (a τ S).bind fun rs τ S => (R.of (valAll rs) τ S).bind fun ws τ S => match f ws S with
  | .ok r S' => .ok r τ S'
  | .ex Cn S' => .ex Cn τ S'
  | .no => .no := (rfl)
@[simp] theorem dTup_eq {a : DA} {τ : Tau} {S : Store} : dTup a τ S = (a τ S).bind fun rs τ S => R.of ((valAll rs).bind fun ws => if ws.length ≤ seqLine then some (.val (.tup ws)) else none) τ S := (rfl)
@[simp] theorem dLst_eq {a : DA} {τ : Tau} {S : Store} : dLst a τ S = (a τ S).bind fun rs τ S => R.of ((valAll rs).bind fun ws => if ws.length ≤ seqLine then some (.own (.lst ws)) else none) τ S := (rfl)
theorem dLst_nil {τ : Tau} {S : Store} : dLst dNil τ S = .ok (.own (.lst [])) τ S := by
  show R.of (if ([] : List W).length ≤ seqLine then some (Sl.own (.lst [])) else none) τ S = _
  rw [if_pos (show ([] : List W).length ≤ seqLine from Nat.zero_le _)]
  rfl
@[simp] theorem dAsg_eq {d : DE} {g : DG} {τ : Tau} {S : Store} : dAsg d g τ S = (d τ S).thenS fun r τ S => g r τ S := (rfl)
@[simp] theorem gSet_val {i : Nat} {w : W} {τ : Tau} {S : Store} : gSet i (.val w) τ S = .nx (τ.set i (.val w)) S := (rfl)
@[simp] theorem gSet_own {i : Nat} {w : MO} {τ : Tau} {S : Store} : gSet i (.own w) τ S = .nx (τ.set i (.own w)) S := (rfl)
@[simp] theorem gTg_one {i : Nat} {r : Sl} {τ : Tau} {S : Store} : gTg (.one i) r τ S = gSet i r τ S := (rfl)
@[simp] theorem gTg_tup {is : List Nat} {w : W} {τ : Tau} {S : Store} : gTg (.tup is) (.val w) τ S = match (Tg.tup is).put w τ with
  | some τ => .nx τ S
  | none => .no := (rfl)
@[simp] theorem dFor_eq {it : DI} {g : DG} {b : DS} {τ : Tau} {S : Store} : dFor it g b τ S = (it τ S).thenS fun p τ S => match p.1 with
  | .val _ => dLoop g b p.2 τ S
  | _ => .no := (rfl)
@[simp] theorem iRange1_eq {a : DA} {τ : Tau} {S : Store} : iRange1 a τ S = (a τ S).bind fun rs τ S => R.of ((rng1 rs).map fun ws => (.val .non, ws)) τ S := (rfl)
@[simp] theorem iSeqP_eq {d : DE} {τ : Tau} {S : Store} : iSeqP d τ S = (d τ S).bind fun x τ S => R.of (x.itemsP.map fun ws => (x, ws)) τ S := (rfl)
@[simp] theorem iSeq_eq {d : DE} {τ : Tau} {S : Store} : iSeq d τ S = iSeqP (dKeep d) τ S := (rfl)
@[simp] theorem itemsP_val {xs : List W} : (Sl.val (.lst xs)).itemsP = some xs := (rfl)
@[simp] theorem itemsP_pk {xs : List W} : (Sl.pk (.lst xs)).itemsP = some xs := (rfl)
@[simp] theorem dRevL_eq {a : DE} {τ : Tau} {S : Store} : dRevL a τ S = (a τ S).bind fun x τ S => R.of (match x.rdS S with
  | some (.lst xs) => some (.own (.lst xs.reverse))
  | _ => none) τ S := (rfl)
@[simp] theorem tyl {xs : List W} : Option.filter (tyW "list") (some (.lst xs)) = some (.lst xs) := (rfl)
@[simp] theorem tys {x : Str} : Option.filter (tyW "str") (some (.str x)) = some (.str x) := (rfl)
@[simp] theorem tyd {x y : List W} : Option.filter (tyW "dict") (some (.dic x y)) = some (.dic x y) := (rfl)
@[simp] theorem rdS_own {m : MO} {S : Store} : (Sl.own m).rdS S = some m.fz := (rfl)
@[simp] theorem rdS_pk {w : W} {S : Store} : (Sl.pk w).rdS S = some w := (rfl)
@[simp] theorem rdS_non {S : Store} : (Sl.val .non).rdS S = some .non := (rfl)
@[simp] theorem rdS_bl {b : Bool} {S : Store} : (Sl.val (.bl b)).rdS S = some (.bl b) := (rfl)
@[simp] theorem rdS_int {b : Int} {S : Store} : (Sl.val (.int b)).rdS S = some (.int b) := (rfl)
@[simp] theorem rdS_str {b : Str} {S : Store} : (Sl.val (.str b)).rdS S = some (.str b) := (rfl)
@[simp] theorem rdS_tup {b : List W} {S : Store} : (Sl.val (.tup b)).rdS S = some (.tup b) := (rfl)
@[simp] theorem rdS_lst {b : List W} {S : Store} : (Sl.val (.lst b)).rdS S = some (.lst b) := (rfl)
@[simp] theorem rdS_dic {a b : List W} {S : Store} : (Sl.val (.dic a b)).rdS S = some (.dic a b) := (rfl)
@[simp] theorem rdS_obj {c : Str} {a : List Str} {b : List W} {S : Store} : (Sl.val (.obj c a b)).rdS S = some (.obj c a b) := (rfl)
@[simp] theorem rdS_exc {c : Str} {S : Store} : (Sl.val (.exc c)).rdS S = some (.exc c) := (rfl)
@[simp] theorem rdS_hnd {n : Nat} {S : Store} : (Sl.val (.hnd n)).rdS S = cellW S.cells n := (rfl)
def W.isH : W → Bool
  | .hnd _ => true
  | _ => false
theorem rdS_val {w : W} {S : Store} (h : w.isH = false) : (Sl.val w).rdS S = some w := by
  cases w with
  | hnd n => cases h
  | _ => rfl
@[simp] theorem rdAll_nil {S : Store} : rdAll S [] = some [] := (rfl)
@[simp] theorem rdAll_more {S : Store} {x : Sl} {r : List Sl} : rdAll S (x :: r) = (x.rdS S).bind fun w => (rdAll S r).map (w :: ·) := by
  show (match x.rdS S, rdAll S r with
    | some w, some ws => some (w :: ws)
    | _, _ => none) = _
  cases x.rdS S <;> cases rdAll S r <;> rfl
@[simp] theorem valAll_nil : valAll [] = some [] := (rfl)
@[simp] theorem valAll_val {w : W} {r : List Sl} : valAll (.val w :: r) = (valAll r).map (w :: ·) := (rfl)
@[simp] theorem f1_one {g : W → Option Sl} {w : W} : f1 g [w] = g w := (rfl)
@[simp] theorem f2_two {g : W → W → Option Sl} {w u : W} : f2 g [w, u] = g w u := (rfl)
@[simp] theorem outF_nx {τ : Tau} {S : Store} : outF (.nx τ S) = .ok (.val .non) S := (rfl)
@[simp] theorem outF_rt {r : Sl} {τ : Tau} {S : Store} : outF (.rt r τ S) = .ok r S := (rfl)
@[simp] theorem outF_ex {C : Str} {τ : Tau} {S : Store} : outF (.ex C τ S) = .ex C S := (rfl)
theorem dPeek_eq {i : Nat} {τ : Tau} {S : Store} : dPeek i τ S = match τ[i]? with
  | some (.val w) => .ok (.val w) τ S
  | some (.own m) => .ok (.pk m.fz) τ S
  | _ => .no := (rfl)
theorem dVar_eq {i : Nat} {τ : Tau} {S : Store} : dVar i τ S = match τ[i]? with
  | some (.val w) => .ok (.val w) τ S
  | some (.own m) => .ok (.val m.fz) (τ.set i (.val m.fz)) S
  | _ => .no := (rfl)
theorem dRetV_eq {i : Nat} {τ : Tau} {S : Store} : dRetV i τ S = match τ[i]? with
  | some (.val w) => .rt (.val w) τ S
  | some (.own m) => .rt (.own m) (τ.set i .no) S
  | _ => .no := (rfl)
theorem dLc_eq {di : DI} {t : Tg} {vs : List Nat} {tt : DT} {te : DE} {τ : Tau} {S : Store} : dLc di t vs tt te τ S = (di τ S).bind fun p τ S => if (vs.all fun v => (τ.getD v .no).plain) = true ∧ (τ.any Sl.isPk) = false then
  (lcLoop t vs tt (dKeep te) p.2 [] (wipeT τ vs) S).bind fun acc τe S => .ok (.own (.lst acc)) (mend τ τe vs) S else .no := (rfl)
@[simp] theorem opLt_int {a b : Int} : opCmp .Lt (.int a) (.int b) = some (decide (a < b)) := (rfl)
@[simp] theorem opLe_int {a b : Int} : opCmp .LtE (.int a) (.int b) = some (decide (a ≤ b)) := (rfl)
@[simp] theorem opGt_int {a b : Int} : opCmp .Gt (.int a) (.int b) = some (decide (b < a)) := (rfl)
@[simp] theorem opGe_int {a b : Int} : opCmp .GtE (.int a) (.int b) = some (decide (b ≤ a)) := (rfl)
@[simp] theorem fLen_lst {xs : List W} : fLen (.lst xs) = some (.val (.int xs.length)) := (rfl)
@[simp] theorem fLen_tup {xs : List W} : fLen (.tup xs) = some (.val (.int xs.length)) := (rfl)
@[simp] theorem fLen_str {xs : Str} : fLen (.str xs) = some (.val (.int xs.length)) := (rfl)
@[simp] theorem fInt_bl {b : Bool} : fInt (.bl b) = some (.val (.int (if b then 1 else 0))) := (rfl)
@[simp] theorem fInt_int {b : Int} : fInt (.int b) = some (.val (.int b)) := (rfl)
@[simp] theorem opSub_int {a b : Int} : opSub (.int a) (.int b) = some (.val (.int (a - b))) := (rfl)
@[simp] theorem opAdd_int {a b : Int} : opAdd (.int a) (.int b) = some (.val (.int (a + b))) := (rfl)
@[simp] theorem opMod_int {a b : Int} (h : 0 < b) : opMod (.int a) (.int b) = some (.val (.int (a % b))) := by
  unfold opMod
  exact if_pos h
@[simp] theorem opFDiv_int {a b : Int} (h : 0 < b) (h2 : b < 1073741824) : opFDiv (.int a) (.int b) = some (.val (.int (a / b))) := by
  unfold opFDiv
  exact if_pos ⟨h, h2⟩
theorem opMul_l {a b : Int} (h : 0 ≤ a) (h2 : a < 2147483648) : opMul (.int a) (.int b) = some (.val (.int (a * b))) := by
  unfold opMul
  exact if_pos (.inl ⟨by omega, by omega⟩)
@[simp] theorem dLoop_nil {g : DG} {b : DS} {τ : Tau} {S : Store} : dLoop g b [] τ S = .nx τ S := (rfl)
/-- a comprehension of one name, its element a function of the item -/
theorem lc_map1 {i : Nat} {te : DE} {f : W → W} {S : Store} : ∀ (ws : List W) {acc : List W} {τ : Tau}, τ[i]? = some .no → (τ.any Sl.isPk) = false → (∀ w ∈ ws, te (τ.set i (.val w)) S = .ok (.val (f w)) (τ.set i (.val w)) S) → acc.length + ws.length ≤ seqLine →
    lcLoop (.one i) [i] dYes te ws acc τ S = .ok (acc ++ ws.map f) τ S
  | [], acc, τ, _, _, _, _ => by simp [lcLoop]
  | w :: ws, acc, τ, h1, h2, h3, h4 => by
    have hw : wipeT (τ.set i (.val w)) [i] = τ := by
      unfold wipeT wipeT
      rw [List.set_set]
      exact List.ext_getElem? fun j => by
        by_cases e : i = j
        · subst e
          rw [List.getElem?_set_self (List.getElem?_eq_some_iff.mp h1).1, h1]
        · rw [List.getElem?_set_ne e]
    have hp : ((τ.set i (.val w)).any Sl.isPk) = false := by
      rw [List.any_eq_false] at h2 ⊢
      intro x hx
      rcases List.mem_or_eq_of_mem_set hx with hx | rfl
      · exact h2 x hx
      · exact fun z => nomatch z
    have hl : acc.length < seqLine := by rw [List.length_cons] at h4; omega
    have ih := lc_map1 (S := S) (te := te) (f := f) ws (acc := acc ++ [f w]) h1 h2 (fun u hu => h3 u (List.mem_cons_of_mem _ hu)) (by simp at h4 ⊢; omega)
    unfold lcLoop
    show ((te (τ.set i (.val w)) S).noEx.bind _) = _
    rw [h3 w (List.mem_cons_self ..)]
    show (if ((τ.set i (.val w)).any Sl.isPk) = false ∧ acc.length < seqLine then lcLoop (.one i) [i] dYes te ws (acc ++ [f w]) (wipeT (τ.set i (.val w)) [i]) S else .no) = _
    rw [if_pos ⟨hp, hl⟩, hw, ih, List.append_assoc] <;> rfl
theorem rng1_ok {j : Int} (h0 : -(2 ^ 62) ≤ j) (h1 : j < 2 ^ 62) : rng1 [.val (.int j)] = some (VM.upTo 0 j.toNat) := if_pos ⟨h0, h1⟩
theorem rng1_nat {m : Nat} (h : m ≤ 1000000) : rng1 [.val (.int m)] = some (VM.upTo 0 m) := by
  have q := rng1_ok (j := (m : Int)) (by omega) (by omega)
  rw [Int.toNat_natCast] at q
  exact q
theorem line_le {n : Nat} (h : n ≤ 1000000) : n ≤ seqLine := h
theorem atI_some {α : Type} {xs : List α} {i : Int} (h0 : 0 ≤ i) (h1 : i < xs.length) : ∃ x, L2.atI xs i = some x := by
  unfold L2.atI
  have e : L2.ixN xs.length i = some i.toNat := by
    unfold L2.ixN
    rw [if_pos h0, if_pos h1]
  rw [e]
  exact ⟨xs[i.toNat]'(by omega), by simp⟩
theorem ix_int {ns : List Int} {i : Int} (h0 : 0 ≤ i) (h1 : i < ns.length) : ∃ c : Int, fIx (.lst (ns.map .int)) (.int i) = some (.val (.int c)) := by
  obtain ⟨x, e⟩ := atI_some (xs := ns.map W.int) h0 (by simpa using h1)
  have hm := atI_mem e
  obtain ⟨c, _, rfl⟩ := List.mem_map.mp hm
  exact ⟨c, by show (L2.atI (ns.map W.int) i).map Sl.val = _; rw [e] <;> rfl⟩
theorem dMut_eq {T : String} {f : MF} {i : Nat} {args : DA} {τ : Tau} {S : Store} : dMut T f i args τ S = match τ[i]? with
  | some (.own m0) => if m0.ty = T then (args τ S).bind fun rs τ S => (match τ[i]? with
      | some (.own m) => if (τ.any Sl.isPk) = false then (R.of (f m rs) τ S).bind fun p τ S => .ok (.val p.1) (τ.set i (.own p.2)) S else .no
      | _ => .no) else .no
  | _ => .no := (rfl)
@[simp] theorem isPk_val {w : W} : (Sl.val w).isPk = false := (rfl)
@[simp] theorem isPk_own {m : MO} : (Sl.own m).isPk = false := (rfl)
@[simp] theorem isPk_no : Sl.no.isPk = false := (rfl)
@[simp] theorem plain_val {w : W} : (Sl.val w).plain = true := (rfl)
@[simp] theorem plain_no : Sl.no.plain = true := (rfl)
@[simp] theorem ty_lst {xs : List W} : (MO.lst xs).ty = "list" := (rfl)
end VM

set_option Elab.async false
set_option linter.all false
/-! VM21: data, plainly. -/
namespace VM
open PySem

theorem toDs_ints : ∀ l : List Int, W.toDs (l.map .int) = some (l.map PyData.int)
  | [] => by simp [W.toDs]
  | x :: l => by
    rw [List.map_cons, List.map_cons]
    unfold W.toDs
    rw [toDs_ints l]
    simp [W.toD]
theorem lay_ints : ∀ l : List Int, PyData.canLayAll0 (l.map PyData.int) = true
  | [] => by simp [PyData.canLayAll0]
  | x :: l => by simp [PyData.canLayAll0, PyData.canLay0, lay_ints l]
theorem depth_ints : ∀ l : List Int, PyData.depthAll (l.map PyData.int) = 0
  | [] => by simp [PyData.depthAll]
  | x :: l => by simp [PyData.depthAll, PyData.depth, depth_ints l]
theorem dep_ints (l : List Int) : (PyData.list (l.map PyData.int)).depth ≤ 64 := by
  simp [PyData.depth, depth_ints]
theorem toD_ints (l : List Int) : (W.lst (l.map .int)).toD = some (.list (l.map PyData.int)) := by
  unfold W.toD
  rw [toDs_ints] <;> rfl
mutual
theorem eqv_refl0 : ∀ {w : W} {d : PyData}, w.toD = some d → PyData.eqv d d = true
  | .non, d, e => by unfold W.toD at e; cases e; rfl
  | .bl b, d, e => by unfold W.toD at e; cases e; simp [PyData.eqv]
  | .int b, d, e => by unfold W.toD at e; cases e; simp [PyData.eqv]
  | .str b, d, e => by unfold W.toD at e; cases e; simp [PyData.eqv]
  | .tup xs, d, e => by
    obtain ⟨ds, e2, rfl⟩ := Option.map_eq_some_iff.mp (show (W.toDs xs).map PyData.tuple = some d by unfold W.toD at e; exact e)
    simp only [PyData.eqv]
    exact eqvs_refl0 e2
  | .lst xs, d, e => by
    obtain ⟨ds, e2, rfl⟩ := Option.map_eq_some_iff.mp (show (W.toDs xs).map PyData.list = some d by unfold W.toD at e; exact e)
    simp only [PyData.eqv]
    exact eqvs_refl0 e2
  | .dic _ _, _, e => by unfold W.toD at e; cases e
  | .obj _ _ _, _, e => by unfold W.toD at e; cases e
  | .exc _, _, e => by unfold W.toD at e; cases e
  | .hnd _, _, e => by unfold W.toD at e; cases e
theorem eqvs_refl0 : ∀ {ws : List W} {ds : List PyData}, W.toDs ws = some ds → PyData.eqvAll ds ds = true
  | [], ds, e => by unfold W.toDs at e; cases e; rfl
  | w :: ws, ds, e => by
    unfold W.toDs at e
    cases e1 : W.toD w with
    | none => rw [e1] at e; cases e
    | some d =>
      rw [e1] at e
      cases e2 : W.toDs ws with
      | none => rw [e2] at e; cases e
      | some es =>
        rw [e2] at e
        cases e
        simp only [PyData.eqvAll]
        rw [eqv_refl0 e1, eqvs_refl0 e2] <;> rfl
end
theorem eqv_self {w : W} {d : PyData} (h : w.toD = some d) (s : d.depth ≤ 64) : w.eqv w = some true := by
  unfold W.eqv
  rw [h]
  show (if d.depth ≤ 64 ∧ d.depth ≤ 64 then some (PyData.eqv d d) else none) = _
  rw [if_pos ⟨s, s⟩, eqv_refl0 h]
theorem eq_ints (l : List Int) : opCmp .Eq (.lst (l.map .int)) (.lst (l.map .int)) = some true := eqv_self (toD_ints l) (dep_ints l)
theorem ne_ints (l : List Int) : opCmp .NotEq (.lst (l.map .int)) (.lst (l.map .int)) = some false := by
  show ((W.lst (l.map .int)).eqv (.lst (l.map .int))).map (!·) = _
  rw [eqv_self (toD_ints l) (dep_ints l)] <;> rfl
theorem eqv_int {a b : Int} : W.eqv (.int a) (.int b) = some (a == b) := by
  unfold W.eqv W.toD
  show (if (PyData.int a).depth ≤ 64 ∧ (PyData.int b).depth ≤ 64 then some (PyData.eqv (.int a) (.int b)) else none) = _
  rw [if_pos ⟨by simp [PyData.depth], by simp [PyData.depth]⟩]
  simp [PyData.eqv]
@[simp] theorem opEq_int {a b : Int} : opCmp .Eq (.int a) (.int b) = some (a == b) := eqv_int
@[simp] theorem opNe_int {a b : Int} : opCmp .NotEq (.int a) (.int b) = some (!(a == b)) := by
  show ((W.int a).eqv (.int b)).map (!·) = _
  rw [eqv_int] <;> rfl
theorem srt_rev {l : List Int} (h : l.Pairwise (· ≥ ·)) : (srtI l).reverse = l := by
  have e : srtI l = l.reverse := sorted_uniq ((srtI_perm l).trans (List.reverse_perm l).symm) (srtI_sorted l) (by rw [List.pairwise_reverse]; exact h)
  rw [e, List.reverse_reverse]
end VM

set_option Elab.async false
set_option linter.all false
/-! VM33: a text's defs, whatever text they stand in. -/
namespace VM
open PySem
/-- a text's readings, its tables -/
class Sys where
  C : Nat → Str → CF
  T : Tbl
  M : Str → CF
abbrev CC [Sys] := Sys.C
abbrev TT [Sys] : Tbl := Sys.T
/-- how a thing is made -/
abbrev MM [Sys] : Str → CF := Sys.M
def kindsB : List String := ["NoneType", "bool", "int", "str", "tuple", "list", "dict"]
def askedB : List String := ["str", "tuple", "list", "int", "bool"]
def subB (n c : String) : Bool := n == c || (n == "bool" && c == "int")
/-- the table of built-in classes is whole -/
class IsB [Sys] : Prop where
  look : (kindsB.all fun n => askedB.all fun c => decide (((TT).isT.find? fun q => decide (q.1 = .bt n) && decide (q.2.1 = .bt c)).map (·.2.2) = some (subB n c))) = true
theorem isB [Sys] [h : IsB] {w : W} {n c : String} (hw : w.tyN = some (.bt n)) (hn : n ∈ kindsB) (hc : c ∈ askedB) : isLook (TT).ecs (TT).isT w (.bt c) = some (subB n c) := by
  have q := List.all_eq_true.mp (List.all_eq_true.mp h.look n hn) c hc
  unfold isLook
  rw [hw]
  exact of_decide_eq_true q
section
variable [Sys] [IsB]
@[simp] theorem is_NoneType_str  : isLook (TT).ecs (TT).isT W.non (.bt "str") = some false := isB (n := "NoneType") rfl (by decide) (by decide)
@[simp] theorem is_NoneType_tuple  : isLook (TT).ecs (TT).isT W.non (.bt "tuple") = some false := isB (n := "NoneType") rfl (by decide) (by decide)
@[simp] theorem is_NoneType_list  : isLook (TT).ecs (TT).isT W.non (.bt "list") = some false := isB (n := "NoneType") rfl (by decide) (by decide)
@[simp] theorem is_NoneType_int  : isLook (TT).ecs (TT).isT W.non (.bt "int") = some false := isB (n := "NoneType") rfl (by decide) (by decide)
@[simp] theorem is_NoneType_bool  : isLook (TT).ecs (TT).isT W.non (.bt "bool") = some false := isB (n := "NoneType") rfl (by decide) (by decide)
@[simp] theorem is_bool_str {b : Bool} : isLook (TT).ecs (TT).isT (W.bl b) (.bt "str") = some false := isB (n := "bool") rfl (by decide) (by decide)
@[simp] theorem is_bool_tuple {b : Bool} : isLook (TT).ecs (TT).isT (W.bl b) (.bt "tuple") = some false := isB (n := "bool") rfl (by decide) (by decide)
@[simp] theorem is_bool_list {b : Bool} : isLook (TT).ecs (TT).isT (W.bl b) (.bt "list") = some false := isB (n := "bool") rfl (by decide) (by decide)
@[simp] theorem is_bool_int {b : Bool} : isLook (TT).ecs (TT).isT (W.bl b) (.bt "int") = some true := isB (n := "bool") rfl (by decide) (by decide)
@[simp] theorem is_bool_bool {b : Bool} : isLook (TT).ecs (TT).isT (W.bl b) (.bt "bool") = some true := isB (n := "bool") rfl (by decide) (by decide)
@[simp] theorem is_int_str {i : Int} : isLook (TT).ecs (TT).isT (W.int i) (.bt "str") = some false := isB (n := "int") rfl (by decide) (by decide)
@[simp] theorem is_int_tuple {i : Int} : isLook (TT).ecs (TT).isT (W.int i) (.bt "tuple") = some false := isB (n := "int") rfl (by decide) (by decide)
@[simp] theorem is_int_list {i : Int} : isLook (TT).ecs (TT).isT (W.int i) (.bt "list") = some false := isB (n := "int") rfl (by decide) (by decide)
@[simp] theorem is_int_int {i : Int} : isLook (TT).ecs (TT).isT (W.int i) (.bt "int") = some true := isB (n := "int") rfl (by decide) (by decide)
@[simp] theorem is_int_bool {i : Int} : isLook (TT).ecs (TT).isT (W.int i) (.bt "bool") = some false := isB (n := "int") rfl (by decide) (by decide)
@[simp] theorem is_str_str {x : Str} : isLook (TT).ecs (TT).isT (W.str x) (.bt "str") = some true := isB (n := "str") rfl (by decide) (by decide)
@[simp] theorem is_str_tuple {x : Str} : isLook (TT).ecs (TT).isT (W.str x) (.bt "tuple") = some false := isB (n := "str") rfl (by decide) (by decide)
@[simp] theorem is_str_list {x : Str} : isLook (TT).ecs (TT).isT (W.str x) (.bt "list") = some false := isB (n := "str") rfl (by decide) (by decide)
@[simp] theorem is_str_int {x : Str} : isLook (TT).ecs (TT).isT (W.str x) (.bt "int") = some false := isB (n := "str") rfl (by decide) (by decide)
@[simp] theorem is_str_bool {x : Str} : isLook (TT).ecs (TT).isT (W.str x) (.bt "bool") = some false := isB (n := "str") rfl (by decide) (by decide)
@[simp] theorem is_tuple_str {xs : List W} : isLook (TT).ecs (TT).isT (W.tup xs) (.bt "str") = some false := isB (n := "tuple") rfl (by decide) (by decide)
@[simp] theorem is_tuple_tuple {xs : List W} : isLook (TT).ecs (TT).isT (W.tup xs) (.bt "tuple") = some true := isB (n := "tuple") rfl (by decide) (by decide)
@[simp] theorem is_tuple_list {xs : List W} : isLook (TT).ecs (TT).isT (W.tup xs) (.bt "list") = some false := isB (n := "tuple") rfl (by decide) (by decide)
@[simp] theorem is_tuple_int {xs : List W} : isLook (TT).ecs (TT).isT (W.tup xs) (.bt "int") = some false := isB (n := "tuple") rfl (by decide) (by decide)
@[simp] theorem is_tuple_bool {xs : List W} : isLook (TT).ecs (TT).isT (W.tup xs) (.bt "bool") = some false := isB (n := "tuple") rfl (by decide) (by decide)
@[simp] theorem is_list_str {xs : List W} : isLook (TT).ecs (TT).isT (W.lst xs) (.bt "str") = some false := isB (n := "list") rfl (by decide) (by decide)
@[simp] theorem is_list_tuple {xs : List W} : isLook (TT).ecs (TT).isT (W.lst xs) (.bt "tuple") = some false := isB (n := "list") rfl (by decide) (by decide)
@[simp] theorem is_list_list {xs : List W} : isLook (TT).ecs (TT).isT (W.lst xs) (.bt "list") = some true := isB (n := "list") rfl (by decide) (by decide)
@[simp] theorem is_list_int {xs : List W} : isLook (TT).ecs (TT).isT (W.lst xs) (.bt "int") = some false := isB (n := "list") rfl (by decide) (by decide)
@[simp] theorem is_list_bool {xs : List W} : isLook (TT).ecs (TT).isT (W.lst xs) (.bt "bool") = some false := isB (n := "list") rfl (by decide) (by decide)
@[simp] theorem is_dict_str {ks xs : List W} : isLook (TT).ecs (TT).isT (W.dic ks xs) (.bt "str") = some false := isB (n := "dict") rfl (by decide) (by decide)
@[simp] theorem is_dict_tuple {ks xs : List W} : isLook (TT).ecs (TT).isT (W.dic ks xs) (.bt "tuple") = some false := isB (n := "dict") rfl (by decide) (by decide)
@[simp] theorem is_dict_list {ks xs : List W} : isLook (TT).ecs (TT).isT (W.dic ks xs) (.bt "list") = some false := isB (n := "dict") rfl (by decide) (by decide)
@[simp] theorem is_dict_int {ks xs : List W} : isLook (TT).ecs (TT).isT (W.dic ks xs) (.bt "int") = some false := isB (n := "dict") rfl (by decide) (by decide)
@[simp] theorem is_dict_bool {ks xs : List W} : isLook (TT).ecs (TT).isT (W.dic ks xs) (.bt "bool") = some false := isB (n := "dict") rfl (by decide) (by decide)
end
@[simp] theorem isAny_nil {ecs : List Str} {isT : List (TyN × TyN × Bool)} {w : W} : isAny ecs isT w [] = some false := (rfl)
@[simp] theorem isAny_cons {ecs : List Str} {isT : List (TyN × TyN × Bool)} {w : W} {c : TyN} {r : List TyN} : isAny ecs isT w (c :: r) = match isLook ecs isT w c with
    | some true => some true
    | some false => isAny ecs isT w r
    | none => none := (rfl)
@[simp] theorem dIsiT_eq {ecs : List Str} {isT : List (TyN × TyN × Bool)} {cs : List TyN} {d : DE} {τ : Tau} {S : Store} : dIsiT ecs isT cs d τ S = (d τ S).bind fun x τ S => R.of (((x.rdS S).bind fun w => isAnyB ecs isT w cs).map fun b => .val (.bl b)) τ S := (rfl)
@[simp] theorem isAnyB_non {ecs : List Str} {isT : List (TyN × TyN × Bool)} {cs : List TyN} : isAnyB ecs isT .non cs = isAny ecs isT .non cs := (rfl)
@[simp] theorem isAnyB_bl {ecs : List Str} {isT : List (TyN × TyN × Bool)} {cs : List TyN} {b : Bool} : isAnyB ecs isT (.bl b) cs = isAny ecs isT (.bl b) cs := (rfl)
@[simp] theorem isAnyB_int {ecs : List Str} {isT : List (TyN × TyN × Bool)} {cs : List TyN} {b : Int} : isAnyB ecs isT (.int b) cs = isAny ecs isT (.int b) cs := (rfl)
@[simp] theorem isAnyB_str {ecs : List Str} {isT : List (TyN × TyN × Bool)} {cs : List TyN} {b : Str} : isAnyB ecs isT (.str b) cs = isAny ecs isT (.str b) cs := (rfl)
@[simp] theorem isAnyB_tup {ecs : List Str} {isT : List (TyN × TyN × Bool)} {cs : List TyN} {b : List W} : isAnyB ecs isT (.tup b) cs = isAny ecs isT (.tup b) cs := (rfl)
@[simp] theorem isAnyB_lst {ecs : List Str} {isT : List (TyN × TyN × Bool)} {cs : List TyN} {b : List W} : isAnyB ecs isT (.lst b) cs = isAny ecs isT (.lst b) cs := (rfl)
@[simp] theorem isAnyB_dic {ecs : List Str} {isT : List (TyN × TyN × Bool)} {cs : List TyN} {a b : List W} : isAnyB ecs isT (.dic a b) cs = isAny ecs isT (.dic a b) cs := (rfl)
@[simp] theorem dSortSet_eq {d : DE} {τ : Tau} {S : Store} : dSortSet d τ S = (d τ S).bind fun x τ S => R.of ((x.rdS S).bind fSortSet) τ S := (rfl)
@[simp] theorem dLenSet_eq {d : DE} {τ : Tau} {S : Store} : dLenSet d τ S = (d τ S).bind fun x τ S => R.of ((x.rdS S).bind fLenSet) τ S := (rfl)
@[simp] theorem dDicT_eq {ks : List Str} {w : W} {τ : Tau} {S : Store} : dDicT ks w τ S = .ok (.own (.dic [.tup (ks.map .str)] [w])) τ S := (rfl)
@[simp] theorem dDicN_eq {τ : Tau} {S : Store} : dDicN τ S = .ok (.own (.dic [] [])) τ S := (rfl)
@[simp] theorem MO.fz_dic {ks xs : List W} : (MO.dic ks xs).fz = .dic ks xs := (rfl)
theorem dMutH_eq {T : String} {f : MF} {o : DE} {args : DA} {τ : Tau} {S : Store} : dMutH T f o args τ S = (o τ S).bind fun x τ S => match x with
  | .val (.hnd n) => (match cellMo S.cells n with
    | some m0 => if m0.ty = T then (args τ S).bind fun rs τ S => (match cellMo S.cells n with
        | some m => (R.of (f m rs) τ S).bind fun p τ S => .ok (.val p.1) τ (S.put n p.2)
        | none => .no) else .no
    | none => .no)
  | _ => .no := (rfl)
theorem dFz_eq {d : DE} {τ : Tau} {S : Store} : dFz d τ S = (d τ S).bind fun x τ S => match x with
  | .val (.hnd n) => (match cellMo S.cells n with
    | some m => .ok (.val m.fz) τ (S.fz n)
    | none => .no)
  | x => .ok x τ S := (rfl)
@[simp] theorem gBox_own {i : Nat} {m : MO} {τ : Tau} {S : Store} : gBox i (.own m) τ S = if (τ.any Sl.isPk) = false then .nx (τ.set i (.val (.hnd S.next))) (S.box m) else .no := (rfl)
@[simp] theorem gBox_val {i : Nat} {w : W} {τ : Tau} {S : Store} : gBox i (.val w) τ S = .nx (τ.set i (.val w)) S := (rfl)
@[simp] theorem dPutH_eq {dv dob di : DE} {τ : Tau} {S : Store} : dPutH dv dob di τ S = ((dKeep dv τ S).bind fun y τ S => (dob τ S).bind fun x τ S => (di τ S).bind fun i τ S => R.of (match y, x with
  | .val w, .val (.hnd n) => (cellMo S.cells n).bind fun m => (i.rdS S).bind fun wi => (fPut m wi w).map fun m' => (n, m')
  | _, _ => none) τ S).thenS fun p τ S => .nx τ (S.put p.1 p.2) := (rfl)
theorem cellW_mo {n : Nat} {m : MO} : ∀ {cs : List (Nat × Cell)}, cellMo cs n = some m → cellW cs n = some m.fz
  | [], h => by cases h
  | (k, .mo m0) :: r, h => by
    have h : (if k = n then some m0 else cellMo r n) = some m := h
    show (if k = n then some m0.fz else cellW r n) = _
    split at h
    · rename_i e; cases h; rw [if_pos e]
    · rename_i e; rw [if_neg e]; exact cellW_mo h
  | (k, .ins C ks xs) :: r, h => by
    have h : (if k = n then none else cellMo r n) = some m := h
    show (if k = n then none else cellW r n) = _
    split at h
    · cases h
    · rename_i e; rw [if_neg e]; exact cellW_mo h
  | (k, .fz w) :: r, h => by
    have h : (if k = n then none else cellMo r n) = some m := h
    show (if k = n then some w else cellW r n) = _
    split at h
    · cases h
    · rename_i e; rw [if_neg e]; exact cellW_mo h
theorem cellMo_put {n : Nat} {m m' : MO} : ∀ {cs : List (Nat × Cell)}, cellMo cs n = some m → cellMo (putMo cs n m') n = some m'
  | [], h => by cases h
  | (k, c) :: r, h => by
    show cellMo (if k = n then (k, .mo m') :: r else (k, c) :: putMo r n m') n = _
    by_cases e : k = n
    · rw [if_pos e]
      show (if k = n then some m' else _) = _
      rw [if_pos e]
    · rw [if_neg e]
      cases c with
      | mo m0 =>
        have h : (if k = n then some m0 else cellMo r n) = some m := h
        rw [if_neg e] at h
        show (if k = n then some m0 else cellMo (putMo r n m') n) = _
        rw [if_neg e]; exact cellMo_put h
      | ins C ks xs =>
        have h : (if k = n then none else cellMo r n) = some m := h
        rw [if_neg e] at h
        show (if k = n then none else cellMo (putMo r n m') n) = _
        rw [if_neg e]; exact cellMo_put h
      | fz w =>
        have h : (if k = n then none else cellMo r n) = some m := h
        rw [if_neg e] at h
        show (if k = n then none else cellMo (putMo r n m') n) = _
        rw [if_neg e]; exact cellMo_put h
theorem putMo_putMo {n : Nat} {a b : MO} : ∀ {cs : List (Nat × Cell)}, putMo (putMo cs n a) n b = putMo cs n b
  | [] => rfl
  | (k, c) :: r => by
    show putMo (if k = n then (k, .mo a) :: r else (k, c) :: putMo r n a) n b = (if k = n then (k, .mo b) :: r else (k, c) :: putMo r n b)
    by_cases e : k = n
    · rw [if_pos e, if_pos e]
      show (if k = n then _ else _) = _
      rw [if_pos e]
    · rw [if_neg e, if_neg e]
      show (if k = n then _ else _) = _
      rw [if_neg e, putMo_putMo]
theorem Store.put_put {S : Store} {n : Nat} {a b : MO} : (S.put n a).put n b = S.put n b := by
  show Store.mk (putMo (putMo S.cells n a) n b) S.next = Store.mk (putMo S.cells n b) S.next
  rw [putMo_putMo] <;> rfl
@[simp] theorem dFld_eq {ok : Str → Str → Bool} {f : Str} {o : DE} {τ : Tau} {S : Store} : dFld ok f o τ S = (o τ S).bind fun x τ S => match x.cls S with
  | some (C, _) => if ok C f then R.of ((x.at S f).map .val) τ S else .no
  | none => .no := (rfl)
@[simp] theorem dMethO_eq {mt : Str → Option (CF × Nat)} {m : Str} {o : DE} {args : DA} {τ : Tau} {S : Store} : dMethO mt m o args τ S = (o τ S).bind fun x τ S => match x.cls S with
  | some (C, ks) => (match mt C with
    | some p => if ks.contains m then .no else (args τ S).bind fun rs τ S => (R.of (valAll (x :: rs)) τ S).bind fun ws τ S => (match p.1 ws S with
      | .ok r S' => .ok r τ S'
      | .ex Cn S' => .ex Cn τ S'
      | .no => .no)
    | none => .no)
  | none => .no := (rfl)
@[simp] theorem cls_obj {C : Str} {ks : List Str} {xs : List W} {S : Store} : (Sl.val (.obj C ks xs)).cls S = some (C, ks) := (rfl)
@[simp] theorem at_obj {C f : Str} {ks : List Str} {xs : List W} {S : Store} : (Sl.val (.obj C ks xs)).at S f = (ks.zip xs).lookup f := (rfl)
@[simp] theorem fMaxL_ints {n : Int} {ns : List Int} : fMaxL (.lst ((n :: ns).map .int)) = some (.val (.int (maxI n ns))) := by
  show (match W.ints ((n :: ns).map W.int) with
    | some (n :: ns) => sI (maxI n ns)
    | _ => none) = _
  rw [W.ints_map]
  rfl
@[simp] theorem fMinL_ints {n : Int} {ns : List Int} : fMinL (.lst ((n :: ns).map .int)) = some (.val (.int (minI n ns))) := by
  show (match W.ints ((n :: ns).map W.int) with
    | some (n :: ns) => sI (minI n ns)
    | _ => none) = _
  rw [W.ints_map]
  rfl
end VM

set_option Elab.async false
set_option linter.all false
set_option maxRecDepth 100000
set_option maxHeartbeats 0
namespace LawK04
open PySem PySem.Spec L2 VM
open PyProof.Rows hiding St
def top (i : Nat) : Stmt := PySem.Challenge.pw_pacthall_k04_texts_refused.main.body.getD i (.Pass ⟨0, 0, 0, 0⟩)
def d0 : PDef := ⟨"law", "law", "law", defArgs (top 32), defBody (top 32), defScope (top 32), ["_law_script", "_law_draws_here", "_law_lines", "_law_k", "_law_text", "_law_days", "_law_due", "_law_line", "_law_deeds_here", "_law_day", "_law_deed"], ["_law_script"], []⟩
def d1 : PDef := ⟨"_law_draws", "_law_draws", "_law_draws", defArgs (top 23), defBody (top 23), defScope (top 23), ["_law_script", "_law_many", "_law_found", "_law_more", "_law_k", "_law_cell", "_law_mixed"], ["_law_script", "_law_many"], []⟩
def d2 : PDef := ⟨"_law_spoilt", "_law_spoilt", "_law_spoilt", defArgs (top 30), defBody (top 30), defScope (top 30), ["_law_text", "_law_draw", "_law_at", "_law_sign", "_law_some", "_law_k"], ["_law_text", "_law_draw"], []⟩
def d3 : PDef := ⟨"_law_deeds", "_law_deeds", "_law_deeds", defArgs (top 25), defBody (top 25), defScope (top 25), ["_law_draws_here", "_law_many", "_law_hands", "_law_acts", "_law_found", "_law_k", "_law_deed"], ["_law_draws_here", "_law_many"], []⟩
def d4 : PDef := ⟨"_law_read", "_law_read", "_law_read", defArgs (top 28), defBody (top 28), defScope (top 28), ["_law_text", "_law_found", "_law_part", "_law_words_here"], ["_law_text"], []⟩
def d5 : PDef := ⟨"_law_asked", "_law_asked", "_law_asked", defArgs (top 31), defBody (top 31), defScope (top 31), ["_law_way", "_law_text", "_law_fault", "_law_found", "_law_e"], ["_law_way", "_law_text"], []⟩
def d6 : PDef := ⟨"_law_words", "_law_words", "_law_words", defArgs (top 27), defBody (top 27), defScope (top 27), ["_law_text", "_law_word"], ["_law_text"], []⟩
def d7 : PDef := ⟨"_law_name_by", "_law_name_by", "_law_name_by", defArgs (top 24), defBody (top 24), defScope (top 24), ["_law_shape", "_law_k", "_law_letters", "_law_place", "_law_name", "_law_turn", "_law_words_here"], ["_law_shape", "_law_k"], []⟩
def d8 : PDef := ⟨"_law_is_name", "_law_is_name", "_law_is_name", defArgs (top 26), defBody (top 26), defScope (top 26), ["_law_word", "_law_words_here", "_law_sign"], ["_law_word"], []⟩
def d9 : PDef := ⟨"read_row", "read_row", "read_row", defArgs (top 21), defBody (top 21), defScope (top 21), ["text", "line"], ["text"], ["ex"]⟩
def d10 : PDef := ⟨"read_day", "read_day", "read_day", defArgs (top 20), defBody (top 20), defScope (top 20), ["text", "part"], ["text"], []⟩
def d11 : PDef := ⟨"_law_class", "_law_class", "_law_class", defArgs (top 29), defBody (top 29), defScope (top 29), ["_law_e", "_law_others"], ["_law_e"], []⟩
def d12 : PDef := ⟨"words_of", "words_of", "words_of_days", defArgs (top 19), defBody (top 19), defScope (top 19), ["text", "word"], ["text"], []⟩
def d13 : PDef := ⟨"day_of", "day_of", "day_of", defArgs (top 18), defBody (top 18), defScope (top 18), ["deeds", "found", "deed"], ["deeds"], []⟩
def d14 : PDef := ⟨"is_deed", "is_deed", "is_deed", defArgs (top 17), defBody (top 17), defScope (top 17), ["thing"], ["thing"], []⟩
def d15 : PDef := ⟨"is_name", "is_name", "is_name", defArgs (top 16), defBody (top 16), defScope (top 16), ["thing", "sign"], ["thing"], []⟩
def d16 : PDef := ⟨"kept_words", "kept_words", "kept_words", defArgs (top 15), defBody (top 15), defScope (top 15), ["words"], [], []⟩
def T : Tbl where
  defs := ([d0, d1, d2, d3, d4, d5, d6, d7, d8, d9, d10, d11, d12, d13, d14, d15, d16] : List PDef)
  mths := ([] : List MDef)
  cls := ([] : List CDef)
  flds := ([] : List (Str × List Str))
  gls := ([("SMALL", (.str "abcdefghijklmnopqrstuvwxyz")), ("MOST_SIGNS", (.int 8)), ("MOST_DEEDS", (.int 8))] : List (Str × W))
  free := (["ValueError", "all", "int", "isinstance", "len", "list", "range", "set", "sorted", "str", "tuple"] : List Str)
  ecs := (["PactError", "NoDay"] : List Str)
  cvs := ([("NoBook", .own "NoBook"), ("NoClause", .own "NoClause"), ("NoHand", .own "NoHand"), ("NoPact", .own "NoPact"), ("NoDay", .own "NoDay"), ("ValueError", .bt "ValueError"), ("NoRow", .own "NoRow"), ("NoSum", .own "NoSum"), ("TooMuch", .own "TooMuch"), ("list", .bt "list"), ("tuple", .bt "tuple"), ("str", .bt "str")] : List (Str × TyN))
  isT := ([(.bt "NoneType", .bt "str", false), (.bt "bool", .bt "str", false), (.bt "int", .bt "str", false), (.bt "str", .bt "str", true), (.bt "tuple", .bt "str", false), (.bt "list", .bt "str", false), (.bt "dict", .bt "str", false), (.own "NoDay", .bt "str", false), (.bt "NoneType", .bt "tuple", false), (.bt "bool", .bt "tuple", false), (.bt "int", .bt "tuple", false), (.bt "str", .bt "tuple", false), (.bt "tuple", .bt "tuple", true), (.bt "list", .bt "tuple", false), (.bt "dict", .bt "tuple", false), (.own "NoDay", .bt "tuple", false), (.bt "NoneType", .bt "list", false), (.bt "bool", .bt "list", false), (.bt "int", .bt "list", false), (.bt "str", .bt "list", false), (.bt "tuple", .bt "list", false), (.bt "list", .bt "list", true), (.bt "dict", .bt "list", false), (.own "NoDay", .bt "list", false), (.bt "NoneType", .bt "int", false), (.bt "bool", .bt "int", true), (.bt "int", .bt "int", true), (.bt "str", .bt "int", false), (.bt "tuple", .bt "int", false), (.bt "list", .bt "int", false)] : List (TyN × TyN × Bool)) ++ ([(.bt "dict", .bt "int", false), (.own "NoDay", .bt "int", false), (.bt "NoneType", .bt "bool", false), (.bt "bool", .bt "bool", true), (.bt "int", .bt "bool", false), (.bt "str", .bt "bool", false), (.bt "tuple", .bt "bool", false), (.bt "list", .bt "bool", false), (.bt "dict", .bt "bool", false), (.own "NoDay", .bt "bool", false), (.bt "NoneType", .own "NoBook", false), (.bt "bool", .own "NoBook", false), (.bt "int", .own "NoBook", false), (.bt "str", .own "NoBook", false), (.bt "tuple", .own "NoBook", false), (.bt "list", .own "NoBook", false), (.bt "dict", .own "NoBook", false), (.own "NoDay", .own "NoBook", false), (.bt "NoneType", .own "NoClause", false), (.bt "bool", .own "NoClause", false), (.bt "int", .own "NoClause", false), (.bt "str", .own "NoClause", false), (.bt "tuple", .own "NoClause", false), (.bt "list", .own "NoClause", false), (.bt "dict", .own "NoClause", false), (.own "NoDay", .own "NoClause", false), (.bt "NoneType", .own "NoHand", false), (.bt "bool", .own "NoHand", false), (.bt "int", .own "NoHand", false), (.bt "str", .own "NoHand", false)] : List (TyN × TyN × Bool)) ++ ([(.bt "tuple", .own "NoHand", false), (.bt "list", .own "NoHand", false), (.bt "dict", .own "NoHand", false), (.own "NoDay", .own "NoHand", false), (.bt "NoneType", .own "NoPact", false), (.bt "bool", .own "NoPact", false), (.bt "int", .own "NoPact", false), (.bt "str", .own "NoPact", false), (.bt "tuple", .own "NoPact", false), (.bt "list", .own "NoPact", false), (.bt "dict", .own "NoPact", false), (.own "NoDay", .own "NoPact", false), (.bt "NoneType", .own "NoDay", false), (.bt "bool", .own "NoDay", false), (.bt "int", .own "NoDay", false), (.bt "str", .own "NoDay", false), (.bt "tuple", .own "NoDay", false), (.bt "list", .own "NoDay", false), (.bt "dict", .own "NoDay", false), (.own "NoDay", .own "NoDay", true), (.bt "NoneType", .bt "ValueError", false), (.bt "bool", .bt "ValueError", false), (.bt "int", .bt "ValueError", false), (.bt "str", .bt "ValueError", false), (.bt "tuple", .bt "ValueError", false), (.bt "list", .bt "ValueError", false), (.bt "dict", .bt "ValueError", false), (.own "NoDay", .bt "ValueError", true), (.bt "NoneType", .own "NoRow", false), (.bt "bool", .own "NoRow", false)] : List (TyN × TyN × Bool)) ++ ([(.bt "int", .own "NoRow", false), (.bt "str", .own "NoRow", false), (.bt "tuple", .own "NoRow", false), (.bt "list", .own "NoRow", false), (.bt "dict", .own "NoRow", false), (.own "NoDay", .own "NoRow", false), (.bt "NoneType", .own "NoSum", false), (.bt "bool", .own "NoSum", false), (.bt "int", .own "NoSum", false), (.bt "str", .own "NoSum", false), (.bt "tuple", .own "NoSum", false), (.bt "list", .own "NoSum", false), (.bt "dict", .own "NoSum", false), (.own "NoDay", .own "NoSum", false), (.bt "NoneType", .own "TooMuch", false), (.bt "bool", .own "TooMuch", false), (.bt "int", .own "TooMuch", false), (.bt "str", .own "TooMuch", false), (.bt "tuple", .own "TooMuch", false), (.bt "list", .own "TooMuch", false), (.bt "dict", .own "TooMuch", false), (.own "NoDay", .own "TooMuch", false)] : List (TyN × TyN × Bool))
  exm := ([("NoDay", "PactError", true)] : List (Str × Str × Bool))
  fe := 30
  fs := 12
theorem mem_A {d : PDef} (hd : d ∈ T.all) : d = d0 ∨ d = d1 ∨ d = d2 ∨ d = d3 ∨ d = d4 ∨ d = d5 ∨ d = d6 ∨ d = d7 ∨ d = d8 ∨ d = d9 ∨ d = d10 ∨ d = d11 ∨ d = d12 ∨ d = d13 ∨ d = d14 ∨ d = d15 ∨ d = d16 := by
  simpa [T, Tbl.all] using hd
theorem mem_T {d : PDef} (hd : d ∈ T.defs) : d = d0 ∨ d = d1 ∨ d = d2 ∨ d = d3 ∨ d = d4 ∨ d = d5 ∨ d = d6 ∨ d = d7 ∨ d = d8 ∨ d = d9 ∨ d = d10 ∨ d = d11 ∨ d = d12 ∨ d = d13 ∨ d = d14 ∨ d = d15 ∨ d = d16 := by
  simpa [T, Tbl.all] using hd
theorem mem_M {d : MDef} (hd : d ∈ T.mths) : False := by
  cases hd
theorem mem_C {d : CDef} (hd : d ∈ T.cls) : False := by
  cases hd
theorem fine : T.Fine := by
  refine ⟨fun d hd => ?_, fun d hd => ?_, fun d hd => ?_, fun d hd => ?_, fun d hd => ?_, fun d hd => ?_, fun q hq n e => ?_⟩
  · rcases mem_A hd with rfl | rfl | rfl | rfl | rfl | rfl | rfl | rfl | rfl | rfl | rfl | rfl | rfl | rfl | rfl | rfl | rfl
    · exact ⟨rfl, rfl, rfl, by decide +kernel, rfl, by decide +kernel, by decide +kernel⟩
    · exact ⟨rfl, rfl, rfl, by decide +kernel, rfl, by decide +kernel, by decide +kernel⟩
    · exact ⟨rfl, rfl, rfl, by decide +kernel, rfl, by decide +kernel, by decide +kernel⟩
    · exact ⟨rfl, rfl, rfl, by decide +kernel, rfl, by decide +kernel, by decide +kernel⟩
    · exact ⟨rfl, rfl, rfl, by decide +kernel, rfl, by decide +kernel, by decide +kernel⟩
    · exact ⟨rfl, rfl, rfl, by decide +kernel, rfl, by decide +kernel, by decide +kernel⟩
    · exact ⟨rfl, rfl, rfl, by decide +kernel, rfl, by decide +kernel, by decide +kernel⟩
    · exact ⟨rfl, rfl, rfl, by decide +kernel, rfl, by decide +kernel, by decide +kernel⟩
    · exact ⟨rfl, rfl, rfl, by decide +kernel, rfl, by decide +kernel, by decide +kernel⟩
    · exact ⟨rfl, rfl, rfl, by decide +kernel, rfl, by decide +kernel, by decide +kernel⟩
    · exact ⟨rfl, rfl, rfl, by decide +kernel, rfl, by decide +kernel, by decide +kernel⟩
    · exact ⟨rfl, rfl, rfl, by decide +kernel, rfl, by decide +kernel, by decide +kernel⟩
    · exact ⟨rfl, rfl, rfl, by decide +kernel, rfl, by decide +kernel, by decide +kernel⟩
    · exact ⟨rfl, rfl, rfl, by decide +kernel, rfl, by decide +kernel, by decide +kernel⟩
    · exact ⟨rfl, rfl, rfl, by decide +kernel, rfl, by decide +kernel, by decide +kernel⟩
    · exact ⟨rfl, rfl, rfl, by decide +kernel, rfl, by decide +kernel, by decide +kernel⟩
    · exact ⟨rfl, rfl, rfl, by decide +kernel, rfl, by decide +kernel, by decide +kernel⟩
  · exact (mem_C hd).elim
  · rcases mem_A hd with rfl | rfl | rfl | rfl | rfl | rfl | rfl | rfl | rfl | rfl | rfl | rfl | rfl | rfl | rfl | rfl | rfl <;> rfl
  · rcases mem_T hd with rfl | rfl | rfl | rfl | rfl | rfl | rfl | rfl | rfl | rfl | rfl | rfl | rfl | rfl | rfl | rfl | rfl
    · exact fun _ _ _ _ _ _ us hl => match us, hl with | [_], _ => rfl
    · exact fun _ _ _ _ _ _ us hl => match us, hl with | [_, _], _ => rfl
    · exact fun _ _ _ _ _ _ us hl => match us, hl with | [_, _], _ => rfl
    · exact fun _ _ _ _ _ _ us hl => match us, hl with | [_, _], _ => rfl
    · exact fun _ _ _ _ _ _ us hl => match us, hl with | [_], _ => rfl
    · exact fun _ _ _ _ _ _ us hl => match us, hl with | [_, _], _ => rfl
    · exact fun _ _ _ _ _ _ us hl => match us, hl with | [_], _ => rfl
    · exact fun _ _ _ _ _ _ us hl => match us, hl with | [_, _], _ => rfl
    · exact fun _ _ _ _ _ _ us hl => match us, hl with | [_], _ => rfl
    · exact fun _ _ _ _ _ _ us hl => match us, hl with | [_], _ => rfl
    · exact fun _ _ _ _ _ _ us hl => match us, hl with | [_], _ => rfl
    · exact fun _ _ _ _ _ _ us hl => match us, hl with | [_], _ => rfl
    · exact fun _ _ _ _ _ _ us hl => match us, hl with | [_], _ => rfl
    · exact fun _ _ _ _ _ _ us hl => match us, hl with | [_], _ => rfl
    · exact fun _ _ _ _ _ _ us hl => match us, hl with | [_], _ => rfl
    · exact fun _ _ _ _ _ _ us hl => match us, hl with | [_], _ => rfl
    · exact fun _ _ _ _ _ _ us hl => match us, hl with | [], _ => rfl
  · exact (mem_M hd).elim
  · exact (mem_C hd).elim
  · have h : (T.cvs.all fun q => match q.2 with
      | .bt n => decide (bootBuiltins q.1 = some (.type n)) && decide (q.1 ≠ "__name__")
      | .own _ => true) = true := by decide +kernel
    have := List.all_eq_true.mp h q hq
    rw [e] at this
    simpa using this
abbrev R : PySem.W.OpenRow := PySem.W.OpenLaw.row PySem.Challenge.rw_pacthall_k04_texts_refused
def adrs : List Addr := ([3, 6, 4, 21, 38, 58, 77, 96, 115, 134, 153, 172, 191, 200, 205, 212, 217, 222, 227, 232, 239, 246, 251, 256, 261, 268, 275, 280, 287, 292, 0, 20, 37, 57, 76, 95, 114, 133, 152, 171, 190, 199, 204, 211, 216, 221, 226, 231, 238, 245, 250, 255, 260, 267, 274, 279, 286, 291, 15, 16] : List Addr) ++ ([17, 18, 19, 35, 36, 39, 55, 56, 74, 75, 93, 94, 112, 113, 131, 132, 150, 151, 169, 170, 188, 189, 194, 195, 196, 197, 198, 201, 202, 203, 206, 207, 208, 209, 210, 213, 214, 215, 218, 219, 220, 223, 224, 225, 228, 229, 230, 233, 234, 235, 236, 237, 240, 241, 242, 243, 244, 247, 248, 249] : List Addr) ++ ([252, 253, 254, 257, 258, 259, 262, 263, 264, 265, 266, 269, 270, 271, 272, 273, 276, 277, 278, 281, 282, 283, 284, 285, 288, 289, 290, 34, 54, 73, 92, 111, 130, 149, 168, 187, 29, 30, 31, 32, 33, 49, 50, 51, 52, 53, 68, 69, 70, 71, 72, 87, 88, 89, 90, 91, 106, 107, 108, 109] : List Addr) ++ ([110, 125, 126, 127, 128, 129, 144, 145, 146, 147, 148, 163, 164, 165, 166, 167, 182, 183, 184, 185, 186] : List Addr)
abbrev hk : PySem.W.Hook := hookA adrs T.chk T.fn
def ob (s : PySem.W.SharedT) : AlB := obsBA adrs T.chk T.fn (HandSHeadRun.getT s)
theorem ob_eq (s : PySem.W.SharedT) : ob s = hk.obs s.abs := obsBA_eq (HandSHeadRun.getT_eq s)
def loose : List Str := (["_wall", "PactError", "NoPact", "NoDay", "NoHand", "NoClause", "NoSum", "NoBook", "NoRow", "TooMuch", "SMALL", "MOST_SIGNS", "MOST_DEEDS", "kept_words", "is_name", "is_deed", "day_of", "words_of", "read_day", "read_row", "_law_draws", "_law_name_by", "_law_deeds", "_law_is_name", "_law_words", "_law_read", "_law_class", "_law_spoilt", "_law_asked"] : List Str)
theorem run (w : World) : HandSHeadRun.RunEq R (PySem.W.view R.prog [32]) hk ob 3000 loose w := by
  intro os
  kernel_rfl
end LawK04

set_option Elab.async false
set_option linter.all false
set_option maxRecDepth 100000
set_option maxHeartbeats 0
namespace VM
open PySem
def l__law_draws_0 [Sys] (F : Str → CF) : DS :=
  (dSeq (dAsg (dConst (.int 0)) (gSet 5))
   <| dSeq (dIfS (dCmpT (opCmp .Gt) (dCall (f1 fLen) (dCons (dPeek 0) dNil)) (dConst (.int 0))) (dSeq (dAsg (dOp2 fIx (dPeek 0) (dOp2 opMod (dPeek 4) (dCall (f1 fLen) (dCons (dPeek 0) dNil)))) (gSet 5))
     <| dSkip) (dSkip))
   <| dSeq (dAsg (dOp2 opMod (dOp2 opAdd (dOp2 opAdd (dOp2 opAdd (dOp2 opMul (dPeek 3) (dConst (.int 48271))) (dPeek 5)) (dPeek 4)) (dConst (.int 1))) (dConst (.int 2147483647))) (gSet 3))
   <| dSeq (dAsg (dOp2 opMod (dOp2 opAdd (dOp2 opMul (dPeek 3) (dPeek 3)) (dOp2 opMul (dConst (.int 16807)) (dPeek 3))) (dConst (.int 2147483629))) (gSet 6))
   <| dSeq (dExpr (dMut "list" mApp 2 (dCons (dKeep (dOp2 opMod (dOp2 opAdd (dOp2 opMul (dPeek 6) (dPeek 6)) (dOp2 opMul (dConst (.int 16807)) (dPeek 6))) (dConst (.int 2147483629)))) dNil)))
   <| dSkip)
/-- _law_draws(_law_script, _law_many): 0 _law_script, 1 _law_many, 2 _law_found, 3 _law_more, 4 _law_k, 5 _law_cell, 6 _law_mixed -/
def b__law_draws [Sys] (F : Str → CF) : DS :=
  (dSeq (dAsg (dLst dNil) (gSet 2))
   <| dSeq (dAsg (dConst (.int 7)) (gSet 3))
   <| dSeq (dFor (iRange1 (dCons (dKeep (dVar 1)) dNil)) (gTg (.one 4)) (l__law_draws_0 F))
   <| dSeq (dRetV 2)
   <| dSkip)
class R__law_draws [Sys] : Prop where
  run__law_draws : ∀ (k : Nat) (S : Store) (x0 x1 : W), CC (k + 1) "_law_draws" [x0, x1] S = outF (b__law_draws (CC k) [.val x0, .val x1, .no, .no, .no, .no, .no] S)
def l__law_name_by_0 [Sys] (F : Str → CF) : DS :=
  (dSeq (dIfS (dCmpT (opCmp .Eq) (dPeek 5) (dPeek 3)) (dSeq (dAsg (dOp2 opAdd (dPeek 4) (dOp2 fIx (dPeek 2) (dOp2 opMod (dOp2 opAdd (dOp2 opFDiv (dPeek 0) (dConst (.int 224))) (dPeek 1)) (dConst (.int 26))))) (gSet 4))
     <| dSkip) (dSeq (dAsg (dOp2 opAdd (dPeek 4) (dOp2 fIx (dPeek 2) (dOp2 opMod (dOp2 opAdd (dOp2 opFDiv (dPeek 0) (dConst (.int 7))) (dOp2 opMul (dPeek 5) (dOp2 opAdd (dConst (.int 1)) (dOp2 opMod (dPeek 0) (dConst (.int 5)))))) (dConst (.int 26))))) (gSet 4))
     <| dSkip))
   <| dSkip)
/-- _law_name_by(_law_shape, _law_k): 0 _law_shape, 1 _law_k, 2 _law_letters, 3 _law_place, 4 _law_name, 5 _law_turn, 6 _law_words -/
def b__law_name_by [Sys] (F : Str → CF) : DS :=
  (dSeq (dAsg (dConst (.str "abcdefghijklmnopqrstuvwxyz")) (gSet 2))
   <| dSeq (dIfS (dAndT (dCmpT (opCmp .Eq) (dOp2 opMod (dPeek 0) (dConst (.int 4))) (dConst (.int 0))) (dCmpT (opCmp .Lt) (dPeek 1) (dConst (.int 8)))) (dSeq (dRet (dOp2 opMul (dOp2 fIx (dPeek 2) (dOp2 opMod (dOp2 opFDiv (dPeek 0) (dConst (.int 4))) (dConst (.int 26)))) (dOp2 opAdd (dConst (.int 1)) (dPeek 1))))
     <| dSkip) (dSkip))
   <| dSeq (dAsg (dOp2 opMod (dOp2 opFDiv (dPeek 0) (dConst (.int 4))) (dConst (.int 7))) (gSet 3))
   <| dSeq (dAsg (dConst (.str "")) (gSet 4))
   <| dSeq (dFor (iRange1 (dCons (dKeep (dOp2 opAdd (dOp2 opAdd (dPeek 3) (dConst (.int 1))) (dOp2 opMod (dOp2 opFDiv (dPeek 0) (dConst (.int 28))) (dOp2 opSub (dConst (.int 8)) (dPeek 3))))) dNil)) (gTg (.one 5)) (l__law_name_by_0 F))
   <| dSeq (dAsg (dConst (.str "kept broken must shun may when both next again till fee share each in for ever then else")) (gSet 6))
   <| dSeq (dIfS (dCmpT (opCmp .In) (dPeek 4) (dMeth "str" pSplit (dPeek 6) (dCons (dConst (.str " ")) dNil))) (dSeq (dRet (dOp2 opAdd (dPeek 4) (dConst (.str "x"))))
     <| dSkip) (dSkip))
   <| dSeq (dRetV 4)
   <| dSkip)
class R__law_name_by [Sys] : Prop where
  run__law_name_by : ∀ (k : Nat) (S : Store) (x0 x1 : W), CC (k + 1) "_law_name_by" [x0, x1] S = outF (b__law_name_by (CC k) [.val x0, .val x1, .no, .no, .no, .no, .no] S)
def l__law_deeds_0 [Sys] (F : Str → CF) : DS :=
  (dSeq (dAsg (dTup (dCons (dKeep (dOp2 fIx (dPeek 2) (dOp2 opMod (dOp2 fIx (dPeek 0) (dOp2 opAdd (dConst (.int 2)) (dPeek 5))) (dConst (.int 3))))) (dCons (dKeep (dOp2 fIx (dPeek 3) (dOp2 opMod (dOp2 opFDiv (dOp2 fIx (dPeek 0) (dOp2 opAdd (dConst (.int 2)) (dPeek 5))) (dConst (.int 3))) (dConst (.int 4))))) dNil))) (gSet 6))
   <| dSeq (dIfS (dCmpT (opCmp .NotIn) (dPeek 6) (dPeek 4)) (dSeq (dExpr (dMut "list" mApp 4 (dCons (dKeep (dVar 6)) dNil)))
     <| dSkip) (dSkip))
   <| dSkip)
/-- _law_deeds(_law_draws_here, _law_many): 0 _law_draws_here, 1 _law_many, 2 _law_hands, 3 _law_acts, 4 _law_found, 5 _law_k, 6 _law_deed -/
def b__law_deeds [Sys] (F : Str → CF) : DS :=
  (dSeq (dAsg (dLc (iRange1 (dCons (dKeep (dConst (.int 3))) dNil)) (.one 5) [5] dYes (dCallF (F "_law_name_by") (dCons (dKeep (dOp2 fIx (dPeek 0) (dConst (.int 0)))) (dCons (dKeep (dVar 5)) dNil)))) (gSet 2))
   <| dSeq (dAsg (dLc (iRange1 (dCons (dKeep (dConst (.int 4))) dNil)) (.one 5) [5] dYes (dCallF (F "_law_name_by") (dCons (dKeep (dOp2 fIx (dPeek 0) (dConst (.int 1)))) (dCons (dKeep (dOp2 opAdd (dConst (.int 3)) (dPeek 5))) dNil)))) (gSet 3))
   <| dSeq (dAsg (dLst dNil) (gSet 4))
   <| dSeq (dFor (iRange1 (dCons (dKeep (dVar 1)) dNil)) (gTg (.one 5)) (l__law_deeds_0 F))
   <| dSeq (dRetV 4)
   <| dSkip)
class R__law_deeds [Sys] : Prop where
  run__law_deeds : ∀ (k : Nat) (S : Store) (x0 x1 : W), CC (k + 1) "_law_deeds" [x0, x1] S = outF (b__law_deeds (CC k) [.val x0, .val x1, .no, .no, .no, .no, .no] S)
end VM

set_option Elab.async false
set_option linter.all false
set_option maxRecDepth 100000
set_option maxHeartbeats 0
namespace VM
open PySem
/-- kept_words(): 0 words -/
def b_kept_words [Sys] (F : Str → CF) : DS :=
  (dSeq (dAsg (dConst (.str "kept broken must shun may when both next again till fee share each in for ever then else")) (gSet 0))
   <| dSeq (dRet (dMeth "str" pSplit (dPeek 0) (dCons (dConst (.str " ")) dNil)))
   <| dSkip)
class R_kept_words [Sys] : Prop where
  run_kept_words : ∀ (k : Nat) (S : Store), CC (k + 1) "kept_words" [] S = outF (b_kept_words (CC k) [.no] S)
/-- is_name(thing): 0 thing, 1 sign -/
def b_is_name [Sys] (F : Str → CF) : DS :=
  (dSeq (dIfS (dOrT (dNotT (dTest (dIsi (TT).ecs (TT).isT (.bt "str") (dPeek 0)))) (dNotT (dTest (dChain (opCmp .LtE) (opCmp .LtE) (dConst (.int 1)) (dCall (f1 fLen) (dCons (dPeek 0) dNil)) (dConst (.int 8)))))) (dSeq (dRet (dConst (.bl false)))
     <| dSkip) (dSkip))
   <| dSeq (dRet (dAndV (dCall (f1 fAll) (dCons (dLc (iSeqP (dPeek 0)) (.one 1) [1] dYes (dCmp (opCmp .In) (dPeek 1) (dConst (.str "abcdefghijklmnopqrstuvwxyz")))) dNil)) (dCmp (opCmp .NotIn) (dPeek 0) (dCallF (F "kept_words") dNil))))
   <| dSkip)
class R_is_name [Sys] : Prop where
  run_is_name : ∀ (k : Nat) (S : Store) (x0 : W), CC (k + 1) "is_name" [x0] S = outF (b_is_name (CC k) [.val x0, .no] S)
/-- is_deed(thing): 0 thing -/
def b_is_deed [Sys] (F : Str → CF) : DS :=
  (dSeq (dRet (dAndV (dIsi (TT).ecs (TT).isT (.bt "tuple") (dPeek 0)) (dAndV (dCmp (opCmp .Eq) (dCall (f1 fLen) (dCons (dPeek 0) dNil)) (dConst (.int 2))) (dAndV (dCallF (F "is_name") (dCons (dKeep (dOp2 fIx (dPeek 0) (dConst (.int 0)))) dNil)) (dCallF (F "is_name") (dCons (dKeep (dOp2 fIx (dPeek 0) (dConst (.int 1)))) dNil))))))
   <| dSkip)
class R_is_deed [Sys] : Prop where
  run_is_deed : ∀ (k : Nat) (S : Store) (x0 : W), CC (k + 1) "is_deed" [x0] S = outF (b_is_deed (CC k) [.val x0] S)
def l_is_day_0 [Sys] (F : Str → CF) : DS :=
  (dSeq (dIfS (dOrT (dNotT (dTest (dCallF (F "is_deed") (dCons (dKeep (dOp2 fIx (dPeek 0) (dPeek 1))) dNil)))) (dAndT (dCmpT (opCmp .Gt) (dPeek 1) (dConst (.int 0))) (dCmpT (opCmp .LtE) (dOp2 fIx (dPeek 0) (dPeek 1)) (dOp2 fIx (dPeek 0) (dOp2 opSub (dPeek 1) (dConst (.int 1))))))) (dSeq (dRet (dConst (.bl false)))
     <| dSkip) (dSkip))
   <| dSkip)
/-- is_day(thing): 0 thing, 1 k -/
def b_is_day [Sys] (F : Str → CF) : DS :=
  (dSeq (dIfS (dOrT (dNotT (dTest (dIsi (TT).ecs (TT).isT (.bt "tuple") (dPeek 0)))) (dCmpT (opCmp .Gt) (dCall (f1 fLen) (dCons (dPeek 0) dNil)) (dConst (.int 8)))) (dSeq (dRet (dConst (.bl false)))
     <| dSkip) (dSkip))
   <| dSeq (dFor (iRange1 (dCons (dKeep (dCall (f1 fLen) (dCons (dPeek 0) dNil))) dNil)) (gTg (.one 1)) (l_is_day_0 F))
   <| dSeq (dRet (dConst (.bl true)))
   <| dSkip)
class R_is_day [Sys] : Prop where
  run_is_day : ∀ (k : Nat) (S : Store) (x0 : W), CC (k + 1) "is_day" [x0] S = outF (b_is_day (CC k) [.val x0, .no] S)
/-- day_of(deeds): 0 deeds, 1 found, 2 deed -/
def b_day_of [Sys] (F : Str → CF) : DS :=
  (dSeq (dIfS (dOrT (dNotT (dTest (dIsiT (TT).ecs (TT).isT [.bt "list", .bt "tuple"] (dPeek 0)))) (dNotT (dTest (dCall (f1 fAll) (dCons (dLc (iSeqP (dPeek 0)) (.one 2) [2] dYes (dCallF (F "is_deed") (dCons (dKeep (dVar 2)) dNil))) dNil))))) (dSeq (dRaise "NoDay")
     <| dSkip) (dSkip))
   <| dSeq (dAsg (dSortSet (dPeek 0)) (gSet 1))
   <| dSeq (dIfS (dCmpT (opCmp .Gt) (dCall (f1 fLen) (dCons (dPeek 1) dNil)) (dConst (.int 8))) (dSeq (dRaise "NoDay")
     <| dSkip) (dSkip))
   <| dSeq (dRet (dCall (f1 fTuple) (dCons (dPeek 1) dNil)))
   <| dSkip)
class R_day_of [Sys] : Prop where
  run_day_of : ∀ (k : Nat) (S : Store) (x0 : W), CC (k + 1) "day_of" [x0] S = outF (b_day_of (CC k) [.val x0, .no, .no] S)
end VM

set_option Elab.async false
set_option linter.all false
set_option maxRecDepth 100000
set_option maxHeartbeats 0
namespace VM
open PySem
/-- words_of_days(text): 0 text, 1 word -/
def b_words_of_days [Sys] (F : Str → CF) : DS :=
  (dSeq (dRet (dLc (iSeq (dMeth "str" pSplit (dPeek 0) (dCons (dConst (.str " ")) dNil))) (.one 1) [1] (dCmpT (opCmp .NotEq) (dPeek 1) (dConst (.str ""))) (dVar 1)))
   <| dSkip)
class R_words_of_days [Sys] : Prop where
  run_words_of_days : ∀ (k : Nat) (S : Store) (x0 : W), CC (k + 1) "words_of_days" [x0] S = outF (b_words_of_days (CC k) [.val x0, .no] S)
/-- read_day(text): 0 text, 1 part -/
def b_read_day [Sys] (F : Str → CF) : DS :=
  (dSeq (dIfS (dCmpT (opCmp .Eq) (dCallF (F "words_of_days") (dCons (dKeep (dVar 0)) dNil)) (dLst (dCons (dKeep (dConst (.str "-"))) dNil))) (dSeq (dRet (dTup dNil))
     <| dSkip) (dSkip))
   <| dSeq (dRet (dCallF (F "day_of") (dCons (dKeep (dLc (iSeq (dMeth "str" pSplit (dPeek 0) (dCons (dConst (.str ",")) dNil))) (.one 1) [1] dYes (dCall (f1 fTuple) (dCons (dCallF (F "words_of_days") (dCons (dKeep (dVar 1)) dNil)) dNil)))) dNil)))
   <| dSkip)
class R_read_day [Sys] : Prop where
  run_read_day : ∀ (k : Nat) (S : Store) (x0 : W), CC (k + 1) "read_day" [x0] S = outF (b_read_day (CC k) [.val x0, .no] S)
/-- read_row(text): 0 text, 1 line -/
def b_read_row [Sys] (F : Str → CF) : DS :=
  (dSeq (dRet (dLcX (iSeq (dMeth "str" pSplit (dPeek 0) (dCons (dConst (.str "\n")) dNil))) (.one 1) [1] (dCmpT (opCmp .NotEq) (dCallF (F "words_of_days") (dCons (dKeep (dVar 1)) dNil)) (dLst dNil)) (dCallF (F "read_day") (dCons (dKeep (dVar 1)) dNil))))
   <| dSkip)
class R_read_row [Sys] : Prop where
  run_read_row : ∀ (k : Nat) (S : Store) (x0 : W), CC (k + 1) "read_row" [x0] S = outF (b_read_row (CC k) [.val x0, .no] S)
/-- day_text(day): 0 day, 1 deed -/
def b_day_text [Sys] (F : Str → CF) : DS :=
  (dSeq (dIfS (dCmpT (opCmp .Eq) (dPeek 0) (dTup dNil)) (dSeq (dRet (dConst (.str "-")))
     <| dSkip) (dSkip))
   <| dSeq (dRet (dMeth "str" pJoin (dConst (.str ", ")) (dCons (dLc (iSeqP (dPeek 0)) (.one 1) [1] dYes (dMeth "str" pJoin (dConst (.str " ")) (dCons (dPeek 1) dNil))) dNil)))
   <| dSkip)
class R_day_text [Sys] : Prop where
  run_day_text : ∀ (k : Nat) (S : Store) (x0 : W), CC (k + 1) "day_text" [x0] S = outF (b_day_text (CC k) [.val x0, .no] S)
/-- row_text(row): 0 row, 1 day -/
def b_row_text [Sys] (F : Str → CF) : DS :=
  (dSeq (dRet (dMeth "str" pJoin (dConst (.str "")) (dCons (dLc (iSeqP (dPeek 0)) (.one 1) [1] dYes (dOp2 opAdd (dCallF (F "day_text") (dCons (dKeep (dVar 1)) dNil)) (dConst (.str "\n")))) dNil)))
   <| dSkip)
class R_row_text [Sys] : Prop where
  run_row_text : ∀ (k : Nat) (S : Store) (x0 : W), CC (k + 1) "row_text" [x0] S = outF (b_row_text (CC k) [.val x0, .no] S)
end VM

set_option Elab.async false
set_option linter.all false
set_option maxRecDepth 100000
set_option maxHeartbeats 0
namespace VM
open PySem
def l_law_0 [Sys] (F : Str → CF) : DS :=
  (dSeq (dAsg (dCallF (F "_law_deeds") (dCons (dKeep (dOp2 opAdd (dSlice (dPeek 1) none (some (dConst (.int 2)))) (dSlice (dPeek 1) (some (dOp2 opAdd (dConst (.int 3)) (dOp2 opMul (dConst (.int 5)) (dPeek 3)))) none))) (dCons (dKeep (dOp2 opAdd (dConst (.int 1)) (dOp2 opMod (dOp2 fIx (dPeek 1) (dOp2 opAdd (dConst (.int 31)) (dPeek 3))) (dConst (.int 4))))) dNil))) (gSet 8))
   <| dSeq (dExpr (dMut "list" mApp 2 (dCons (dKeep (dOp2 fIx (dLst (dCons (dKeep (dMeth "str" pJoin (dConst (.str ", ")) (dCons (dLc (iSeqP (dPeek 8)) (.one 10) [10] dYes (dMeth "str" pJoin (dConst (.str " ")) (dCons (dPeek 10) dNil))) dNil))) (dCons (dKeep (dConst (.str "-"))) dNil))) (dCall (f1 fInt) (dCons (dCmp (opCmp .Eq) (dOp2 opMod (dOp2 opFDiv (dOp2 fIx (dPeek 1) (dOp2 opAdd (dConst (.int 31)) (dPeek 3))) (dConst (.int 4))) (dConst (.int 5))) (dConst (.int 1))) dNil)))) dNil)))
   <| dSkip)
def l_law_1 [Sys] (F : Str → CF) : DS :=
  (dSeq (dAsg (dCallF (F "_law_read") (dCons (dKeep (dVar 7)) dNil)) (gSet 9))
   <| dSeq (dIfS (dCmpT (opCmp .Is) (dPeek 9) (dConst .non)) (dSeq (dAsg (dConst (.str "no day")) (gSet 9))
     <| dSkip) (dSkip))
   <| dSeq (dIfS (dCmpT (opCmp .NotEq) (dCallF (F "_law_asked") (dCons (dKeep (dConst (.int 1))) (dCons (dKeep (dVar 7)) dNil))) (dPeek 9)) (dSeq (dRet (dConst (.bl false)))
     <| dSkip) (dSkip))
   <| dSkip)
/-- law(_law_script): 0 _law_script, 1 _law_draws_here, 2 _law_lines, 3 _law_k, 4 _law_text, 5 _law_days, 6 _law_due, 7 _law_line, 8 _law_deeds_here, 9 _law_day, 10 _law_deed -/
def law_s0 [Sys] (F : Str → CF) : DS :=
  (dAsg (dCallF (F "_law_draws") (dCons (dKeep (dVar 0)) (dCons (dKeep (dConst (.int 40))) dNil))) (gSet 1))
def law_s1 [Sys] (F : Str → CF) : DS :=
  (dAsg (dLst dNil) (gSet 2))
def law_s2 [Sys] (F : Str → CF) : DS :=
  (dFor (iRange1 (dCons (dKeep (dOp2 opAdd (dConst (.int 1)) (dOp2 opMod (dOp2 fIx (dPeek 1) (dConst (.int 30))) (dConst (.int 4))))) dNil)) (gTg (.one 3)) (l_law_0 F))
def law_s3 [Sys] (F : Str → CF) : DS :=
  (dAsg (dCallF (F "_law_spoilt") (dCons (dKeep (dOp2 opAdd (dMeth "str" pJoin (dConst (.str "\n")) (dCons (dPeek 2) dNil)) (dConst (.str "\n")))) (dCons (dKeep (dOp2 fIx (dPeek 1) (dConst (.int 36)))) dNil))) (gSet 4))
def law_s4 [Sys] (F : Str → CF) : DS :=
  (dIfS (dCmpT (opCmp .Eq) (dOp2 opMod (dOp2 fIx (dPeek 1) (dConst (.int 37))) (dConst (.int 4))) (dConst (.int 1))) (dSeq (dAsg (dCallF (F "_law_spoilt") (dCons (dKeep (dVar 4)) (dCons (dKeep (dOp2 fIx (dPeek 1) (dConst (.int 38)))) dNil))) (gSet 4))
   <| dSkip) (dSkip))
def law_s5 [Sys] (F : Str → CF) : DS :=
  (dAsg (dLc (iSeq (dMeth "str" pSplit (dPeek 4) (dCons (dConst (.str "\n")) dNil))) (.one 7) [7] (dCmpT (opCmp .NotEq) (dCallF (F "_law_words") (dCons (dKeep (dVar 7)) dNil)) (dLst dNil)) (dCallF (F "_law_read") (dCons (dKeep (dVar 7)) dNil))) (gSet 5))
def law_s6 [Sys] (F : Str → CF) : DS :=
  (dAsg (dOp2 fIx (dLst (dCons (dKeep (dVar 5)) (dCons (dKeep (dConst (.str "no day"))) dNil))) (dCall (f1 fInt) (dCons (dCmp (opCmp .In) (dConst .non) (dPeek 5)) dNil))) (gSet 6))
def law_s7 [Sys] (F : Str → CF) : DS :=
  (dIfS (dCmpT (opCmp .NotEq) (dCallF (F "_law_asked") (dCons (dKeep (dConst (.int 0))) (dCons (dKeep (dVar 4)) dNil))) (dPeek 6)) (dSeq (dRet (dConst (.bl false)))
   <| dSkip) (dSkip))
def law_s8 [Sys] (F : Str → CF) : DS :=
  (dFor (iSeq (dOp2 opAdd (dMeth "str" pSplit (dPeek 4) (dCons (dConst (.str "\n")) dNil)) (dLst (dCons (dKeep (dVar 4)) dNil)))) (gTg (.one 7)) (l_law_1 F))
def law_s9 [Sys] (F : Str → CF) : DS :=
  (dRet (dConst (.bl true)))
def law_t9 [Sys] (F : Str → CF) : DS := dSeq (law_s9 F) dSkip
def law_t8 [Sys] (F : Str → CF) : DS := dSeq (law_s8 F) (law_t9 F)
def law_t7 [Sys] (F : Str → CF) : DS := dSeq (law_s7 F) (law_t8 F)
def law_t6 [Sys] (F : Str → CF) : DS := dSeq (law_s6 F) (law_t7 F)
def law_t5 [Sys] (F : Str → CF) : DS := dSeq (law_s5 F) (law_t6 F)
def law_t4 [Sys] (F : Str → CF) : DS := dSeq (law_s4 F) (law_t5 F)
def law_t3 [Sys] (F : Str → CF) : DS := dSeq (law_s3 F) (law_t4 F)
def law_t2 [Sys] (F : Str → CF) : DS := dSeq (law_s2 F) (law_t3 F)
def law_t1 [Sys] (F : Str → CF) : DS := dSeq (law_s1 F) (law_t2 F)
def law_t0 [Sys] (F : Str → CF) : DS := dSeq (law_s0 F) (law_t1 F)
def b_law [Sys] (F : Str → CF) : DS := law_t0 F
class R_law [Sys] : Prop where
  run_law : ∀ (k : Nat) (S : Store) (x0 : W), CC (k + 1) "law" [x0] S = outF (b_law (CC k) [.val x0, .no, .no, .no, .no, .no, .no, .no, .no, .no, .no] S)
/-- _law_spoilt(_law_text, _law_draw): 0 _law_text, 1 _law_draw, 2 _law_at, 3 _law_sign, 4 _law_some, 5 _law_k -/
def b__law_spoilt [Sys] (F : Str → CF) : DS :=
  (dSeq (dAsg (dOp2 opMod (dOp2 opFDiv (dPeek 1) (dConst (.int 4))) (dOp2 opAdd (dCall (f1 fLen) (dCons (dPeek 0) dNil)) (dConst (.int 1)))) (gSet 2))
   <| dSeq (dAsg (dOp2 fIx (dConst (.str ",,-- ab9AZ~\n;")) (dOp2 opMod (dOp2 opFDiv (dPeek 1) (dConst (.int 4000))) (dConst (.int 13)))) (gSet 3))
   <| dSeq (dIfS (dCmpT (opCmp .Eq) (dOp2 opMod (dPeek 1) (dConst (.int 4))) (dConst (.int 0))) (dSeq (dRet (dOp2 opAdd (dOp2 opAdd (dSlice (dPeek 0) none (some (dVar 2))) (dPeek 3)) (dSlice (dPeek 0) (some (dVar 2)) none)))
     <| dSkip) (dSkip))
   <| dSeq (dIfS (dCmpT (opCmp .Eq) (dOp2 opMod (dPeek 1) (dConst (.int 4))) (dConst (.int 1))) (dSeq (dRet (dOp2 opAdd (dOp2 opAdd (dSlice (dPeek 0) none (some (dVar 2))) (dPeek 3)) (dSlice (dPeek 0) (some (dOp2 opAdd (dPeek 2) (dConst (.int 1)))) none)))
     <| dSkip) (dSkip))
   <| dSeq (dIfS (dCmpT (opCmp .Eq) (dOp2 opMod (dPeek 1) (dConst (.int 4))) (dConst (.int 2))) (dSeq (dRet (dOp2 opAdd (dSlice (dPeek 0) none (some (dVar 2))) (dSlice (dPeek 0) (some (dOp2 opAdd (dPeek 2) (dConst (.int 1)))) none)))
     <| dSkip) (dSkip))
   <| dSeq (dAsg (dLst (dCons (dKeep (dConst (.str ""))) (dCons (dKeep (dConst (.str "-"))) (dCons (dKeep (dConst (.str "- -"))) (dCons (dKeep (dConst (.str "a"))) (dCons (dKeep (dConst (.str "a b c"))) (dCons (dKeep (dConst (.str "a b,"))) (dCons (dKeep (dConst (.str ", a b"))) (dCons (dKeep (dConst (.str "a b,,c d"))) (dCons (dKeep (dConst (.str "-, a b"))) (dCons (dKeep (dConst (.str "a must"))) (dCons (dKeep (dConst (.str "abcdefghi a"))) dNil)))))))))))) (gSet 4))
   <| dSeq (dAsg (dOp2 opAdd (dPeek 4) (dLst (dCons (dKeep (dConst (.str "a b\n-\nc"))) (dCons (dKeep (dConst (.str "A b"))) (dCons (dKeep (dConst (.str "a b ;"))) (dCons (dKeep (dConst (.str "; a b"))) (dCons (dKeep (dConst (.str "a ; b"))) dNil))))))) (gSet 4))
   <| dSeq (dRet (dOp2 fIx (dOp2 opAdd (dPeek 4) (dLst (dCons (dKeep (dMeth "str" pJoin (dConst (.str ", ")) (dCons (dLc (iRange1 (dCons (dKeep (dOp2 opAdd (dConst (.int 8)) (dOp2 opMod (dOp2 opFDiv (dPeek 1) (dConst (.int 64))) (dConst (.int 2))))) dNil)) (.one 5) [5] dYes (dOp2 opAdd (dConst (.str "a b")) (dOp2 fIx (dConst (.str "abcdefghi")) (dPeek 5)))) dNil))) dNil))) (dOp2 opMod (dOp2 opFDiv (dPeek 1) (dConst (.int 4))) (dConst (.int 17)))))
   <| dSkip)
class R__law_spoilt [Sys] : Prop where
  run__law_spoilt : ∀ (k : Nat) (S : Store) (x0 x1 : W), CC (k + 1) "_law_spoilt" [x0, x1] S = outF (b__law_spoilt (CC k) [.val x0, .val x1, .no, .no, .no, .no] S)
def l__law_read_0 [Sys] (F : Str → CF) : DS :=
  (dSeq (dAsg (dCallF (F "_law_words") (dCons (dKeep (dVar 2)) dNil)) (gSet 3))
   <| dSeq (dIfS (dOrT (dCmpT (opCmp .NotEq) (dCall (f1 fLen) (dCons (dPeek 3) dNil)) (dConst (.int 2))) (dOrT (dNotT (dTest (dCallF (F "_law_is_name") (dCons (dKeep (dOp2 fIx (dPeek 3) (dConst (.int 0)))) dNil)))) (dNotT (dTest (dCallF (F "_law_is_name") (dCons (dKeep (dOp2 fIx (dPeek 3) (dConst (.int 1)))) dNil)))))) (dSeq (dRet (dConst .non))
     <| dSkip) (dSkip))
   <| dSeq (dIfS (dCmpT (opCmp .NotIn) (dCall (f1 fTuple) (dCons (dPeek 3) dNil)) (dPeek 1)) (dSeq (dExpr (dMut "list" mApp 1 (dCons (dKeep (dCall (f1 fTuple) (dCons (dPeek 3) dNil))) dNil)))
     <| dSkip) (dSkip))
   <| dSkip)
/-- _law_read(_law_text): 0 _law_text, 1 _law_found, 2 _law_part, 3 _law_words_here -/
def b__law_read [Sys] (F : Str → CF) : DS :=
  (dSeq (dIfS (dCmpT (opCmp .Eq) (dCallF (F "_law_words") (dCons (dKeep (dVar 0)) dNil)) (dLst (dCons (dKeep (dConst (.str "-"))) dNil))) (dSeq (dRet (dTup dNil))
     <| dSkip) (dSkip))
   <| dSeq (dAsg (dLst dNil) (gSet 1))
   <| dSeq (dFor (iSeq (dMeth "str" pSplit (dPeek 0) (dCons (dConst (.str ",")) dNil))) (gTg (.one 2)) (l__law_read_0 F))
   <| dSeq (dIfS (dCmpT (opCmp .Gt) (dCall (f1 fLen) (dCons (dPeek 1) dNil)) (dConst (.int 8))) (dSeq (dRet (dConst .non))
     <| dSkip) (dSkip))
   <| dSeq (dRet (dCall (f1 fTuple) (dCons (dCall (f1 fSortA) (dCons (dPeek 1) dNil)) dNil)))
   <| dSkip)
class R__law_read [Sys] : Prop where
  run__law_read : ∀ (k : Nat) (S : Store) (x0 : W), CC (k + 1) "_law_read" [x0] S = outF (b__law_read (CC k) [.val x0, .no, .no, .no] S)
/-- _law_asked(_law_way, _law_text): 0 _law_way, 1 _law_text, 2 _law_fault, 3 _law_found, 4 _law_e -/
def b__law_asked [Sys] (F : Str → CF) : DS :=
  (dSeq (dAsg (dConst .non) (gSet 2))
   <| dSeq (dAsg (dConst .non) (gSet 3))
   <| dSeq (dTry (catches (TT).exm "PactError") 4 (dSeq (dIfS (dCmpT (opCmp .Eq) (dPeek 0) (dConst (.int 0))) (dSeq (dAsg (dCallF (F "read_row") (dCons (dKeep (dVar 1)) dNil)) (gSet 3))
       <| dSkip) (dSeq (dAsg (dCallF (F "read_day") (dCons (dKeep (dVar 1)) dNil)) (gSet 3))
       <| dSkip))
     <| dSkip) (dSeq (dAsg (dVar 4) (gSet 2))
     <| dSkip))
   <| dSeq (dIfS (dCmpT (opCmp .IsNot) (dPeek 2) (dConst .non)) (dSeq (dRet (dOp2 fIx (dLst (dCons (dKeep (dConst (.str "other"))) (dCons (dKeep (dConst (.str "no day"))) dNil))) (dCall (f1 fInt) (dCons (dCallF (F "_law_class") (dCons (dKeep (dVar 2)) dNil)) dNil))))
     <| dSkip) (dSkip))
   <| dSeq (dRetV 3)
   <| dSkip)
class R__law_asked [Sys] : Prop where
  run__law_asked : ∀ (k : Nat) (S : Store) (x0 x1 : W), CC (k + 1) "_law_asked" [x0, x1] S = outF (b__law_asked (CC k) [.val x0, .val x1, .no, .no, .no] S)
/-- _law_words(_law_text): 0 _law_text, 1 _law_word -/
def b__law_words [Sys] (F : Str → CF) : DS :=
  (dSeq (dRet (dLc (iSeq (dMeth "str" pSplit (dPeek 0) (dCons (dConst (.str " ")) dNil))) (.one 1) [1] (dCmpT (opCmp .NotEq) (dPeek 1) (dConst (.str ""))) (dVar 1)))
   <| dSkip)
class R__law_words [Sys] : Prop where
  run__law_words : ∀ (k : Nat) (S : Store) (x0 : W), CC (k + 1) "_law_words" [x0] S = outF (b__law_words (CC k) [.val x0, .no] S)
/-- _law_is_name(_law_word): 0 _law_word, 1 _law_words_here, 2 _law_sign -/
def b__law_is_name [Sys] (F : Str → CF) : DS :=
  (dSeq (dAsg (dConst (.str "kept broken must shun may when both next again till fee share each in for ever then else")) (gSet 1))
   <| dSeq (dIfS (dOrT (dNotT (dTest (dChain (opCmp .LtE) (opCmp .LtE) (dConst (.int 1)) (dCall (f1 fLen) (dCons (dPeek 0) dNil)) (dConst (.int 8))))) (dCmpT (opCmp .In) (dPeek 0) (dMeth "str" pSplit (dPeek 1) (dCons (dConst (.str " ")) dNil)))) (dSeq (dRet (dConst (.bl false)))
     <| dSkip) (dSkip))
   <| dSeq (dRet (dCall (f1 fAll) (dCons (dLc (iSeqP (dPeek 0)) (.one 2) [2] dYes (dCmp (opCmp .In) (dPeek 2) (dConst (.str "abcdefghijklmnopqrstuvwxyz")))) dNil)))
   <| dSkip)
class R__law_is_name [Sys] : Prop where
  run__law_is_name : ∀ (k : Nat) (S : Store) (x0 : W), CC (k + 1) "_law_is_name" [x0] S = outF (b__law_is_name (CC k) [.val x0, .no, .no] S)
/-- _law_class(_law_e): 0 _law_e, 1 _law_others -/
def b__law_class [Sys] (F : Str → CF) : DS :=
  (dSeq (dAsg (dLst (dCons (dKeep (dIsi (TT).ecs (TT).isT (.own "NoBook") (dPeek 0))) (dCons (dKeep (dIsi (TT).ecs (TT).isT (.own "NoClause") (dPeek 0))) (dCons (dKeep (dIsi (TT).ecs (TT).isT (.own "NoHand") (dPeek 0))) (dCons (dKeep (dIsi (TT).ecs (TT).isT (.own "NoPact") (dPeek 0))) dNil))))) (gSet 1))
   <| dSeq (dAsg (dOp2 opAdd (dPeek 1) (dLst (dCons (dKeep (dIsi (TT).ecs (TT).isT (.own "NoRow") (dPeek 0))) (dCons (dKeep (dIsi (TT).ecs (TT).isT (.own "NoSum") (dPeek 0))) (dCons (dKeep (dIsi (TT).ecs (TT).isT (.own "TooMuch") (dPeek 0))) dNil))))) (gSet 1))
   <| dSeq (dRet (dAndV (dCmp (opCmp .Eq) (dMeth "list" pCount (dPeek 1) (dCons (dConst (.bl true)) dNil)) (dConst (.int 0))) (dAndV (dIsi (TT).ecs (TT).isT (.own "NoDay") (dPeek 0)) (dIsi (TT).ecs (TT).isT (.bt "ValueError") (dPeek 0)))))
   <| dSkip)
class R__law_class [Sys] : Prop where
  run__law_class : ∀ (k : Nat) (S : Store) (x0 : W), CC (k + 1) "_law_class" [x0] S = outF (b__law_class (CC k) [.val x0, .no] S)
/-- what is known of the classes of exceptions -/
class ISX [Sys] : Prop where
  isx_NoDay_NoBook : isLook (TT).ecs (TT).isT (.exc "NoDay") (.own "NoBook") = some false
  isx_NoDay_NoClause : isLook (TT).ecs (TT).isT (.exc "NoDay") (.own "NoClause") = some false
  isx_NoDay_NoHand : isLook (TT).ecs (TT).isT (.exc "NoDay") (.own "NoHand") = some false
  isx_NoDay_NoPact : isLook (TT).ecs (TT).isT (.exc "NoDay") (.own "NoPact") = some false
  isx_NoDay_NoDay : isLook (TT).ecs (TT).isT (.exc "NoDay") (.own "NoDay") = some true
  isx_NoDay_ValueError : isLook (TT).ecs (TT).isT (.exc "NoDay") (.bt "ValueError") = some true
  isx_NoDay_NoRow : isLook (TT).ecs (TT).isT (.exc "NoDay") (.own "NoRow") = some false
  isx_NoDay_NoSum : isLook (TT).ecs (TT).isT (.exc "NoDay") (.own "NoSum") = some false
  isx_NoDay_TooMuch : isLook (TT).ecs (TT).isT (.exc "NoDay") (.own "TooMuch") = some false
  isx_NoDay_list : isLook (TT).ecs (TT).isT (.exc "NoDay") (.bt "list") = some false
  isx_NoDay_tuple : isLook (TT).ecs (TT).isT (.exc "NoDay") (.bt "tuple") = some false
  isx_NoDay_str : isLook (TT).ecs (TT).isT (.exc "NoDay") (.bt "str") = some false
  cat_NoDay_PactError : catches (TT).exm "PactError" "NoDay" = some true
/-- all that this law reads -/
class RALL [Sys] : Prop extends IsB, ISX, R_law, R__law_draws, R__law_spoilt, R__law_deeds, R__law_read, R__law_asked, R__law_words, R__law_name_by, R__law_is_name, R_read_row, R_read_day, R__law_class, R_words_of_days, R_day_of, R_is_deed, R_is_name, R_kept_words
end VM

set_option Elab.async false
set_option linter.all false
set_option maxRecDepth 100000
set_option maxHeartbeats 0
namespace LawK04
open PySem PySem.Spec L2 VM
open PyProof.Rows hiding St
def sys (V : EnvP) : Sys := ⟨cf V T, T, fun x => ((newOf V T x).map (·.1)).getD fun _ _ => .no⟩
theorem den_d0 (V : EnvP) (k : Nat) : blkS (denS 30 12) (mkB V T d0 k) d0.body = @b_law (sys V) (cf V T k) := by kernel_rfl
theorem cf_d0 (V : EnvP) (k : Nat) : cf V T (k + 1) "law" = runF 30 12 (mkB V T d0 k) 1 d0.body := by kernel_rfl
theorem run_d0 (V : EnvP) : @R_law (sys V) := @R_law.mk (sys V) fun k S x0 => by
  show cf V T (k + 1) "law" [x0] S = _
  rw [cf_d0, runF_out (ws := [x0]) (np := 1) rfl, den_d0]
  rfl
theorem den_d1 (V : EnvP) (k : Nat) : blkS (denS 30 12) (mkB V T d1 k) d1.body = @b__law_draws (sys V) (cf V T k) := by kernel_rfl
theorem cf_d1 (V : EnvP) (k : Nat) : cf V T (k + 1) "_law_draws" = runF 30 12 (mkB V T d1 k) 2 d1.body := by kernel_rfl
theorem run_d1 (V : EnvP) : @R__law_draws (sys V) := @R__law_draws.mk (sys V) fun k S x0 x1 => by
  show cf V T (k + 1) "_law_draws" [x0, x1] S = _
  rw [cf_d1, runF_out (ws := [x0, x1]) (np := 2) rfl, den_d1]
  rfl
theorem den_d2 (V : EnvP) (k : Nat) : blkS (denS 30 12) (mkB V T d2 k) d2.body = @b__law_spoilt (sys V) (cf V T k) := by kernel_rfl
theorem cf_d2 (V : EnvP) (k : Nat) : cf V T (k + 1) "_law_spoilt" = runF 30 12 (mkB V T d2 k) 2 d2.body := by kernel_rfl
theorem run_d2 (V : EnvP) : @R__law_spoilt (sys V) := @R__law_spoilt.mk (sys V) fun k S x0 x1 => by
  show cf V T (k + 1) "_law_spoilt" [x0, x1] S = _
  rw [cf_d2, runF_out (ws := [x0, x1]) (np := 2) rfl, den_d2]
  rfl
theorem den_d3 (V : EnvP) (k : Nat) : blkS (denS 30 12) (mkB V T d3 k) d3.body = @b__law_deeds (sys V) (cf V T k) := by kernel_rfl
theorem cf_d3 (V : EnvP) (k : Nat) : cf V T (k + 1) "_law_deeds" = runF 30 12 (mkB V T d3 k) 2 d3.body := by kernel_rfl
theorem run_d3 (V : EnvP) : @R__law_deeds (sys V) := @R__law_deeds.mk (sys V) fun k S x0 x1 => by
  show cf V T (k + 1) "_law_deeds" [x0, x1] S = _
  rw [cf_d3, runF_out (ws := [x0, x1]) (np := 2) rfl, den_d3]
  rfl
theorem den_d4 (V : EnvP) (k : Nat) : blkS (denS 30 12) (mkB V T d4 k) d4.body = @b__law_read (sys V) (cf V T k) := by kernel_rfl
theorem cf_d4 (V : EnvP) (k : Nat) : cf V T (k + 1) "_law_read" = runF 30 12 (mkB V T d4 k) 1 d4.body := by kernel_rfl
theorem run_d4 (V : EnvP) : @R__law_read (sys V) := @R__law_read.mk (sys V) fun k S x0 => by
  show cf V T (k + 1) "_law_read" [x0] S = _
  rw [cf_d4, runF_out (ws := [x0]) (np := 1) rfl, den_d4]
  rfl
theorem den_d5 (V : EnvP) (k : Nat) : blkS (denS 30 12) (mkB V T d5 k) d5.body = @b__law_asked (sys V) (cf V T k) := by kernel_rfl
theorem cf_d5 (V : EnvP) (k : Nat) : cf V T (k + 1) "_law_asked" = runF 30 12 (mkB V T d5 k) 2 d5.body := by kernel_rfl
theorem run_d5 (V : EnvP) : @R__law_asked (sys V) := @R__law_asked.mk (sys V) fun k S x0 x1 => by
  show cf V T (k + 1) "_law_asked" [x0, x1] S = _
  rw [cf_d5, runF_out (ws := [x0, x1]) (np := 2) rfl, den_d5]
  rfl
theorem den_d6 (V : EnvP) (k : Nat) : blkS (denS 30 12) (mkB V T d6 k) d6.body = @b__law_words (sys V) (cf V T k) := by kernel_rfl
theorem cf_d6 (V : EnvP) (k : Nat) : cf V T (k + 1) "_law_words" = runF 30 12 (mkB V T d6 k) 1 d6.body := by kernel_rfl
theorem run_d6 (V : EnvP) : @R__law_words (sys V) := @R__law_words.mk (sys V) fun k S x0 => by
  show cf V T (k + 1) "_law_words" [x0] S = _
  rw [cf_d6, runF_out (ws := [x0]) (np := 1) rfl, den_d6]
  rfl
theorem den_d7 (V : EnvP) (k : Nat) : blkS (denS 30 12) (mkB V T d7 k) d7.body = @b__law_name_by (sys V) (cf V T k) := by kernel_rfl
theorem cf_d7 (V : EnvP) (k : Nat) : cf V T (k + 1) "_law_name_by" = runF 30 12 (mkB V T d7 k) 2 d7.body := by kernel_rfl
theorem run_d7 (V : EnvP) : @R__law_name_by (sys V) := @R__law_name_by.mk (sys V) fun k S x0 x1 => by
  show cf V T (k + 1) "_law_name_by" [x0, x1] S = _
  rw [cf_d7, runF_out (ws := [x0, x1]) (np := 2) rfl, den_d7]
  rfl
theorem den_d8 (V : EnvP) (k : Nat) : blkS (denS 30 12) (mkB V T d8 k) d8.body = @b__law_is_name (sys V) (cf V T k) := by kernel_rfl
theorem cf_d8 (V : EnvP) (k : Nat) : cf V T (k + 1) "_law_is_name" = runF 30 12 (mkB V T d8 k) 1 d8.body := by kernel_rfl
theorem run_d8 (V : EnvP) : @R__law_is_name (sys V) := @R__law_is_name.mk (sys V) fun k S x0 => by
  show cf V T (k + 1) "_law_is_name" [x0] S = _
  rw [cf_d8, runF_out (ws := [x0]) (np := 1) rfl, den_d8]
  rfl
theorem den_d9 (V : EnvP) (k : Nat) : blkS (denS 30 12) (mkB V T d9 k) d9.body = @b_read_row (sys V) (cf V T k) := by kernel_rfl
theorem cf_d9 (V : EnvP) (k : Nat) : cf V T (k + 1) "read_row" = runF 30 12 (mkB V T d9 k) 1 d9.body := by kernel_rfl
theorem run_d9 (V : EnvP) : @R_read_row (sys V) := @R_read_row.mk (sys V) fun k S x0 => by
  show cf V T (k + 1) "read_row" [x0] S = _
  rw [cf_d9, runF_out (ws := [x0]) (np := 1) rfl, den_d9]
  rfl
theorem den_d10 (V : EnvP) (k : Nat) : blkS (denS 30 12) (mkB V T d10 k) d10.body = @b_read_day (sys V) (cf V T k) := by kernel_rfl
theorem cf_d10 (V : EnvP) (k : Nat) : cf V T (k + 1) "read_day" = runF 30 12 (mkB V T d10 k) 1 d10.body := by kernel_rfl
theorem run_d10 (V : EnvP) : @R_read_day (sys V) := @R_read_day.mk (sys V) fun k S x0 => by
  show cf V T (k + 1) "read_day" [x0] S = _
  rw [cf_d10, runF_out (ws := [x0]) (np := 1) rfl, den_d10]
  rfl
theorem den_d11 (V : EnvP) (k : Nat) : blkS (denS 30 12) (mkB V T d11 k) d11.body = @b__law_class (sys V) (cf V T k) := by kernel_rfl
theorem cf_d11 (V : EnvP) (k : Nat) : cf V T (k + 1) "_law_class" = runF 30 12 (mkB V T d11 k) 1 d11.body := by kernel_rfl
theorem run_d11 (V : EnvP) : @R__law_class (sys V) := @R__law_class.mk (sys V) fun k S x0 => by
  show cf V T (k + 1) "_law_class" [x0] S = _
  rw [cf_d11, runF_out (ws := [x0]) (np := 1) rfl, den_d11]
  rfl
theorem den_d12 (V : EnvP) (k : Nat) : blkS (denS 30 12) (mkB V T d12 k) d12.body = @b_words_of_days (sys V) (cf V T k) := by kernel_rfl
theorem cf_d12 (V : EnvP) (k : Nat) : cf V T (k + 1) "words_of_days" = runF 30 12 (mkB V T d12 k) 1 d12.body := by kernel_rfl
theorem run_d12 (V : EnvP) : @R_words_of_days (sys V) := @R_words_of_days.mk (sys V) fun k S x0 => by
  show cf V T (k + 1) "words_of_days" [x0] S = _
  rw [cf_d12, runF_out (ws := [x0]) (np := 1) rfl, den_d12]
  rfl
theorem den_d13 (V : EnvP) (k : Nat) : blkS (denS 30 12) (mkB V T d13 k) d13.body = @b_day_of (sys V) (cf V T k) := by kernel_rfl
theorem cf_d13 (V : EnvP) (k : Nat) : cf V T (k + 1) "day_of" = runF 30 12 (mkB V T d13 k) 1 d13.body := by kernel_rfl
theorem run_d13 (V : EnvP) : @R_day_of (sys V) := @R_day_of.mk (sys V) fun k S x0 => by
  show cf V T (k + 1) "day_of" [x0] S = _
  rw [cf_d13, runF_out (ws := [x0]) (np := 1) rfl, den_d13]
  rfl
theorem den_d14 (V : EnvP) (k : Nat) : blkS (denS 30 12) (mkB V T d14 k) d14.body = @b_is_deed (sys V) (cf V T k) := by kernel_rfl
theorem cf_d14 (V : EnvP) (k : Nat) : cf V T (k + 1) "is_deed" = runF 30 12 (mkB V T d14 k) 1 d14.body := by kernel_rfl
theorem run_d14 (V : EnvP) : @R_is_deed (sys V) := @R_is_deed.mk (sys V) fun k S x0 => by
  show cf V T (k + 1) "is_deed" [x0] S = _
  rw [cf_d14, runF_out (ws := [x0]) (np := 1) rfl, den_d14]
  rfl
theorem den_d15 (V : EnvP) (k : Nat) : blkS (denS 30 12) (mkB V T d15 k) d15.body = @b_is_name (sys V) (cf V T k) := by kernel_rfl
theorem cf_d15 (V : EnvP) (k : Nat) : cf V T (k + 1) "is_name" = runF 30 12 (mkB V T d15 k) 1 d15.body := by kernel_rfl
theorem run_d15 (V : EnvP) : @R_is_name (sys V) := @R_is_name.mk (sys V) fun k S x0 => by
  show cf V T (k + 1) "is_name" [x0] S = _
  rw [cf_d15, runF_out (ws := [x0]) (np := 1) rfl, den_d15]
  rfl
theorem den_d16 (V : EnvP) (k : Nat) : blkS (denS 30 12) (mkB V T d16 k) d16.body = @b_kept_words (sys V) (cf V T k) := by kernel_rfl
theorem cf_d16 (V : EnvP) (k : Nat) : cf V T (k + 1) "kept_words" = runF 30 12 (mkB V T d16 k) 0 d16.body := by kernel_rfl
theorem run_d16 (V : EnvP) : @R_kept_words (sys V) := @R_kept_words.mk (sys V) fun k S => by
  show cf V T (k + 1) "kept_words" [] S = _
  rw [cf_d16, runF_out (ws := []) (np := 0) rfl, den_d16]
  rfl
theorem isb (V : EnvP) : @IsB (sys V) := @IsB.mk (sys V) (by kernel_rfl)
theorem isx (V : EnvP) : @ISX (sys V) := @ISX.mk (sys V) (by kernel_rfl) (by kernel_rfl) (by kernel_rfl) (by kernel_rfl) (by kernel_rfl) (by kernel_rfl) (by kernel_rfl) (by kernel_rfl) (by kernel_rfl) (by kernel_rfl) (by kernel_rfl) (by kernel_rfl) (by kernel_rfl)
theorem rall (V : EnvP) : @RALL (sys V) := @RALL.mk (sys V) (isb V) (isx V) (run_d0 V) (run_d1 V) (run_d2 V) (run_d3 V) (run_d4 V) (run_d5 V) (run_d6 V) (run_d7 V) (run_d8 V) (run_d9 V) (run_d10 V) (run_d11 V) (run_d12 V) (run_d13 V) (run_d14 V) (run_d15 V) (run_d16 V)
end LawK04

set_option Elab.async false
set_option linter.all false
set_option maxRecDepth 10000
/-! PL0: plain laws: data, comprehensions. -/
namespace VM
open PySem
/-! ### data of a depth -/
def DatN (n : Nat) (w : W) : Prop := ∃ d, w.toD = some d ∧ d.depth ≤ n
theorem DatN.mono {n m : Nat} {w : W} (h : DatN n w) (z : n ≤ m) : DatN m w := by
  obtain ⟨d, a, b⟩ := h
  exact ⟨d, a, Nat.le_trans b z⟩
theorem datN_str {n : Nat} {x : Str} : DatN n (.str x) := ⟨.str x, by simp [W.toD], by simp [PyData.depth]⟩
theorem datN_int {n : Nat} {x : Int} : DatN n (.int x) := ⟨.int x, by simp [W.toD], by simp [PyData.depth]⟩
theorem datN_bl {n : Nat} {x : Bool} : DatN n (.bl x) := ⟨.bool x, by simp [W.toD], by simp [PyData.depth]⟩
theorem datN_non {n : Nat} : DatN n .non := ⟨.none, by simp [W.toD], by simp [PyData.depth]⟩
def datsN (n : Nat) : List W → Prop
  | [] => True
  | w :: r => DatN n w ∧ datsN n r
theorem datsN_of {n : Nat} : ∀ {l : List W}, (∀ w ∈ l, DatN n w) → datsN n l
  | [], _ => trivial
  | w :: r, h => ⟨h w List.mem_cons_self, datsN_of fun u hu => h u (List.mem_cons_of_mem _ hu)⟩
theorem datsN_some {n : Nat} : ∀ {l : List W}, datsN n l → ∃ ds, W.toDs l = some ds ∧ PyData.depthAll ds ≤ n
  | [], _ => ⟨[], by simp [W.toDs], by simp [PyData.depthAll]⟩
  | w :: r, ⟨⟨d, a, b⟩, t⟩ => by
    obtain ⟨ds, e, z⟩ := datsN_some t
    exact ⟨d :: ds, by simp [W.toDs, a, e], by simp only [PyData.depthAll]; omega⟩
theorem datN_tup {n : Nat} {l : List W} (h : datsN n l) : DatN (n + 1) (.tup l) := by
  obtain ⟨ds, e, z⟩ := datsN_some h
  exact ⟨.tuple ds, by simp [W.toD, e], by simp only [PyData.depth]; omega⟩
theorem datN_lst {n : Nat} {l : List W} (h : datsN n l) : DatN (n + 1) (.lst l) := by
  obtain ⟨ds, e, z⟩ := datsN_some h
  exact ⟨.list ds, by simp [W.toD, e], by simp only [PyData.depth]; omega⟩
/-! ### == -/
def eqW (a b : W) : Bool := match a.toD, b.toD with
  | some d, some e => PyData.eqv d e
  | _, _ => false
theorem opEq_dat {a b : W} {n m : Nat} (ha : DatN n a) (hb : DatN m b) (hn : n ≤ 64) (hm : m ≤ 64) : opCmp .Eq a b = some (eqW a b) := by
  obtain ⟨d, h1, z1⟩ := ha
  obtain ⟨e, h2, z2⟩ := hb
  show W.eqv a b = _
  unfold W.eqv eqW
  rw [h1, h2]
  show (if d.depth ≤ 64 ∧ e.depth ≤ 64 then _ else _) = _
  rw [if_pos ⟨by omega, by omega⟩]
theorem opNe_dat {a b : W} {n m : Nat} (ha : DatN n a) (hb : DatN m b) (hn : n ≤ 64) (hm : m ≤ 64) : opCmp .NotEq a b = some (!eqW a b) := by
  show (W.eqv a b).map (!·) = _
  rw [show W.eqv a b = some (eqW a b) from opEq_dat ha hb hn hm] <;> rfl
theorem eqW_self {a : W} {n : Nat} (h : DatN n a) : eqW a a = true := by
  obtain ⟨d, h1, _⟩ := h
  unfold eqW
  rw [h1]
  exact eqv_refl0 h1
/-- typed data -/
class Enc (α : Type) where
  enc : α → W
  dep : Nat
  dat : ∀ a, DatN dep (enc a)
  eqv : ∀ a b, eqW (enc a) (enc b) = true ↔ a = b
open Enc (enc)
theorem enc_isH {α : Type} [Enc α] {a : α} : (enc a : W).isH = false := by
  obtain ⟨d, e, _⟩ := Enc.dat a
  cases h : (enc a : W) with
  | hnd n => rw [h] at e; unfold W.toD at e; cases e
  | _ => rfl
@[simp] theorem rdS_enc {α : Type} [Enc α] {a : α} {S : Store} : (Sl.val (enc a)).rdS S = some (enc a) := rdS_val enc_isH
instance : Enc Str := ⟨.str, 0, fun _ => datN_str, fun a b => by simp [eqW, W.toD, PyData.eqv]⟩
instance : Enc Int := ⟨.int, 0, fun _ => datN_int, fun a b => by simp [eqW, W.toD, PyData.eqv]⟩
theorem eqvAll_enc {α : Type} [Enc α] : ∀ {xs ys : List α} {ds es : List PyData}, W.toDs (xs.map enc) = some ds → W.toDs (ys.map enc) = some es → (PyData.eqvAll ds es = true ↔ xs = ys)
  | [], [], ds, es, h1, h2 => by simp [W.toDs] at h1 h2; subst h1; subst h2; simp [PyData.eqvAll]
  | [], y :: ys, ds, es, h1, h2 => by
    obtain ⟨d, a, _⟩ := Enc.dat y
    simp [W.toDs, a] at h1 h2; subst h1
    cases es with
    | nil => split at h2 <;> simp at h2
    | cons _ _ => simp [PyData.eqvAll]
  | x :: xs, [], ds, es, h1, h2 => by
    obtain ⟨d, a, _⟩ := Enc.dat x
    simp [W.toDs, a] at h1 h2; subst h2
    cases ds with
    | nil => split at h1 <;> simp at h1
    | cons _ _ => simp [PyData.eqvAll]
  | x :: xs, y :: ys, ds, es, h1, h2 => by
    obtain ⟨d, a, _⟩ := Enc.dat x
    obtain ⟨e, b, _⟩ := Enc.dat y
    simp only [List.map_cons, W.toDs, a, b] at h1 h2
    split at h1
    · rename_i ds' hd
      cases h1
      split at h2
      · rename_i es' he
        cases h2
        simp only [PyData.eqvAll, Bool.and_eq_true]
        have q := Enc.eqv x y
        unfold eqW at q
        rw [a, b] at q
        rw [show (PyData.eqv d e = true ↔ x = y) from q, eqvAll_enc hd he]
        simp
      · cases h2
    · cases h1
theorem dats_enc {α : Type} [Enc α] (l : List α) : datsN (Enc.dep α) (l.map enc) := datsN_of fun w hw => by
  obtain ⟨a, _, rfl⟩ := List.mem_map.mp hw
  exact Enc.dat a
theorem eqW_lst {α : Type} [Enc α] {xs ys : List α} : eqW (.lst (xs.map enc)) (.lst (ys.map enc)) = true ↔ xs = ys := by
  obtain ⟨ds, h1, _⟩ := datsN_some (dats_enc xs)
  obtain ⟨es, h2, _⟩ := datsN_some (dats_enc ys)
  have q := eqvAll_enc h1 h2
  unfold eqW
  simp only [W.toD, h1, h2, Option.map_some, PyData.eqv]
  exact q
theorem eqW_tup {α : Type} [Enc α] {xs ys : List α} : eqW (.tup (xs.map enc)) (.tup (ys.map enc)) = true ↔ xs = ys := by
  obtain ⟨ds, h1, _⟩ := datsN_some (dats_enc xs)
  obtain ⟨es, h2, _⟩ := datsN_some (dats_enc ys)
  have q := eqvAll_enc h1 h2
  unfold eqW
  simp only [W.toD, h1, h2, Option.map_some, PyData.eqv]
  exact q
instance {α : Type} [Enc α] : Enc (List α) := ⟨fun l => .lst (l.map enc), Enc.dep α + 1, fun l => datN_lst (dats_enc l), fun _ _ => eqW_lst⟩
/-- a row that is a tuple -/
structure Tup (α : Type) where
  l : List α
  deriving DecidableEq
instance {α : Type} [Enc α] : Enc (Tup α) := ⟨fun t => .tup (t.l.map enc), Enc.dep α + 1, fun t => datN_tup (dats_enc t.l), fun a b => by
  rw [show (eqW (.tup (a.l.map enc)) (.tup (b.l.map enc)) = true ↔ a.l = b.l) from eqW_tup]
  cases a; cases b; simp⟩
instance {α β : Type} [Enc α] [Enc β] : Enc (α × β) := ⟨fun p => .tup [enc p.1, enc p.2], max (Enc.dep α) (Enc.dep β) + 1, fun p => datN_tup ⟨(Enc.dat p.1).mono (Nat.le_max_left _ _), (Enc.dat p.2).mono (Nat.le_max_right _ _), trivial⟩, fun p q => by
  obtain ⟨d1, a1, _⟩ := Enc.dat p.1
  obtain ⟨d2, a2, _⟩ := Enc.dat p.2
  obtain ⟨e1, b1, _⟩ := Enc.dat q.1
  obtain ⟨e2, b2, _⟩ := Enc.dat q.2
  have h1 := Enc.eqv p.1 q.1
  have h2 := Enc.eqv p.2 q.2
  unfold eqW at h1 h2 ⊢
  rw [a1, b1] at h1
  rw [a2, b2] at h2
  simp only [W.toD, W.toDs, a1, a2, b1, b2, Option.map_some, PyData.eqv, PyData.eqvAll, Bool.and_eq_true, Bool.and_true]
  rw [show (PyData.eqv d1 e1 = true ↔ p.1 = q.1) from h1, show (PyData.eqv d2 e2 = true ↔ p.2 = q.2) from h2, Prod.ext_iff]⟩
section
variable {α : Type} [Enc α] [DecidableEq α] {a b : α}
theorem eqW_enc : eqW (enc a) (enc b) = decide (a = b) := by
  by_cases h : a = b
  · rw [decide_eq_true h]; exact (Enc.eqv a b).mpr h
  · rw [decide_eq_false h]
    cases q : eqW (enc a) (enc b) with
    | false => rfl
    | true => exact (h ((Enc.eqv a b).mp q)).elim
theorem opEq_enc (h : Enc.dep α ≤ 64) : opCmp .Eq (enc a) (enc b) = some (decide (a = b)) := by
  rw [opEq_dat (Enc.dat a) (Enc.dat b) h h, eqW_enc]
theorem opNe_enc (h : Enc.dep α ≤ 64) : opCmp .NotEq (enc a) (enc b) = some (!decide (a = b)) := by
  rw [opNe_dat (Enc.dat a) (Enc.dat b) h h, eqW_enc]
theorem any_enc {d : PyData} (hd : (enc a).toD = some d) : ∀ {l : List α} {ds : List PyData}, W.toDs (l.map enc) = some ds → (ds.any fun z => PyData.eqv z d) = decide (a ∈ l)
  | [], ds, h => by simp [W.toDs] at h; subst h; simp
  | x :: l, ds, h => by
    obtain ⟨e, b, _⟩ := Enc.dat x
    simp only [List.map_cons, W.toDs, b] at h
    split at h
    · rename_i ds' he
      cases h
      rw [List.any_cons, any_enc hd he]
      have q := Enc.eqv x a
      unfold eqW at q
      rw [b, hd] at q
      have q : PyData.eqv e d = true ↔ x = a := q
      by_cases hx : x = a
      · subst hx; simp [q.mpr rfl]
      · have : PyData.eqv e d = false := by
          cases z : PyData.eqv e d with
          | false => rfl
          | true => exact (hx (q.mp z)).elim
        rw [this, Bool.false_or]
        have n : ¬ a = x := fun z => hx z.symm
        simp [n]
    · cases h
theorem isIn_lst {l : List α} (h : Enc.dep α ≤ 60) : opCmp .In (enc a) (.lst (l.map enc)) = some (decide (a ∈ l)) := by
  obtain ⟨d, hd, z⟩ := Enc.dat a
  obtain ⟨ds, h1, z1⟩ := datsN_some (dats_enc l)
  show inSeq .list (enc a) (l.map enc) = _
  unfold inSeq
  rw [hd, h1]
  show (if d.depth ≤ 64 ∧ (PyData.list ds).depth ≤ 64 then _ else _) = _
  rw [if_pos ⟨by omega, by simp only [PyData.depth]; omega⟩, any_enc hd h1]
theorem notIn_lst {l : List α} (h : Enc.dep α ≤ 60) : opCmp .NotIn (enc a) (.lst (l.map enc)) = some (!decide (a ∈ l)) := by
  show (W.isIn (enc a) (.lst (l.map enc))).map (!·) = _
  rw [show W.isIn (enc a) (.lst (l.map enc)) = some (decide (a ∈ l)) from isIn_lst h] <;> rfl
theorem isIn_tup {l : List α} (h : Enc.dep α ≤ 60) : opCmp .In (enc a) (.tup (l.map enc)) = some (decide (a ∈ l)) := by
  obtain ⟨d, hd, z⟩ := Enc.dat a
  obtain ⟨ds, h1, z1⟩ := datsN_some (dats_enc l)
  show inSeq .tuple (enc a) (l.map enc) = _
  unfold inSeq
  rw [hd, h1]
  show (if d.depth ≤ 64 ∧ (PyData.tuple ds).depth ≤ 64 then _ else _) = _
  rw [if_pos ⟨by omega, by simp only [PyData.depth]; omega⟩, any_enc hd h1]
theorem notIn_tup {l : List α} (h : Enc.dep α ≤ 60) : opCmp .NotIn (enc a) (.tup (l.map enc)) = some (!decide (a ∈ l)) := by
  show (W.isIn (enc a) (.tup (l.map enc))).map (!·) = _
  rw [show W.isIn (enc a) (.tup (l.map enc)) = some (decide (a ∈ l)) from isIn_tup h] <;> rfl
end
section
variable {α : Type} [Enc α] {a b : α} {l : List α}
open Classical in
theorem isIn_yes (h : Enc.dep α ≤ 60) (m : a ∈ l) : opCmp .In (enc a) (.lst (l.map enc)) = some true := by rw [isIn_lst h, decide_eq_true m]
open Classical in
theorem isIn_no (h : Enc.dep α ≤ 60) (m : a ∉ l) : opCmp .In (enc a) (.lst (l.map enc)) = some false := by rw [isIn_lst h, decide_eq_false m]
open Classical in
theorem notIn_yes (h : Enc.dep α ≤ 60) (m : a ∈ l) : opCmp .NotIn (enc a) (.lst (l.map enc)) = some false := by rw [notIn_lst h, decide_eq_true m] <;> rfl
open Classical in
theorem notIn_no (h : Enc.dep α ≤ 60) (m : a ∉ l) : opCmp .NotIn (enc a) (.lst (l.map enc)) = some true := by rw [notIn_lst h, decide_eq_false m] <;> rfl
open Classical in
theorem opEq_yes (h : Enc.dep α ≤ 64) (m : a = b) : opCmp .Eq (enc a) (enc b) = some true := by rw [opEq_enc h, decide_eq_true m]
open Classical in
theorem opEq_no (h : Enc.dep α ≤ 64) (m : a ≠ b) : opCmp .Eq (enc a) (enc b) = some false := by rw [opEq_enc h, decide_eq_false m]
open Classical in
theorem opNe_yes (h : Enc.dep α ≤ 64) (m : a = b) : opCmp .NotEq (enc a) (enc b) = some false := by rw [opNe_enc h, decide_eq_true m] <;> rfl
open Classical in
theorem opNe_no (h : Enc.dep α ≤ 64) (m : a ≠ b) : opCmp .NotEq (enc a) (enc b) = some true := by rw [opNe_enc h, decide_eq_false m] <;> rfl
end
/-! ### comprehensions of one name -/
theorem set_back {τ : Tau} {i : Nat} (h : i < τ.length) : (τ.set i .no).set i (τ.getD i .no) = τ := by
  rw [List.set_set]
  refine List.ext_getElem? fun j => ?_
  by_cases e : i = j
  · subst e
    rw [List.getElem?_set_self h, List.getD_eq_getElem?_getD, List.getElem?_eq_getElem h] <;> rfl
  · rw [List.getElem?_set_ne e]
theorem any_set {τ : Tau} {i : Nat} {s : Sl} (h : (τ.any Sl.isPk) = false) (hs : s.isPk = false) : ((τ.set i s).any Sl.isPk) = false := by
  rw [List.any_eq_false] at h ⊢
  intro x hx
  rcases List.mem_or_eq_of_mem_set hx with hx | rfl
  · exact h x hx
  · rw [hs]; decide
theorem lc_fm1 {i : Nat} {tt : DT} {te : DE} {p : W → Bool} {f : W → W} {S : Store} {τ : Tau} (hi : i < τ.length) (hk : (τ.any Sl.isPk) = false) : ∀ (ws : List W) {acc : List W}, (∀ w ∈ ws, tt (τ.set i (.val w)) S = .ok (p w) (τ.set i (.val w)) S) →
    (∀ w ∈ ws, p w = true → te (τ.set i (.val w)) S = .ok (.val (f w)) (τ.set i (.val w)) S) → acc.length + ws.length ≤ seqLine → lcLoop (.one i) [i] tt te ws acc (τ.set i .no) S = .ok (acc ++ (ws.filter p).map f) (τ.set i .no) S
  | [], acc, _, _, _ => by simp [lcLoop]
  | w :: ws, acc, h1, h2, h3 => by
    have e1 : (τ.set i .no).set i (.val w) = τ.set i (.val w) := List.set_set ..
    have hw : wipeT (τ.set i (.val w)) [i] = τ.set i .no := by
      unfold wipeT wipeT
      exact List.set_set ..
    have hp : ((τ.set i (.val w)).any Sl.isPk) = false := any_set hk rfl
    have hl : acc.length < seqLine := by rw [List.length_cons] at h3; omega
    have r1 : ∀ u ∈ ws, tt (τ.set i (.val u)) S = .ok (p u) (τ.set i (.val u)) S := fun u hu => h1 u (List.mem_cons_of_mem _ hu)
    have r2 : ∀ u ∈ ws, p u = true → te (τ.set i (.val u)) S = .ok (.val (f u)) (τ.set i (.val u)) S := fun u hu => h2 u (List.mem_cons_of_mem _ hu)
    unfold lcLoop
    show ((tt ((τ.set i .no).set i (.val w)) S).noEx.bind _) = _
    rw [e1, h1 w List.mem_cons_self]
    show (match p w with | true => _ | false => _) = _
    cases hpw : p w with
    | true =>
      show ((te (τ.set i (.val w)) S).noEx.bind _) = _
      rw [h2 w List.mem_cons_self hpw]
      show (if _ ∧ _ then _ else _) = _
      rw [if_pos ⟨hp, hl⟩, hw, lc_fm1 hi hk ws r1 r2 (by simp at h3 ⊢; omega), List.filter_cons_of_pos (by rw [hpw]), List.map_cons, List.append_assoc]
      rfl
    | false =>
      show lcLoop (.one i) [i] tt te ws acc (wipeT (τ.set i (.val w)) [i]) S = _
      rw [hw, lc_fm1 hi hk ws r1 r2 (by simp at h3 ⊢; omega), List.filter_cons_of_neg (by rw [hpw]; decide)]
theorem dLc_fm1 {di : DI} {i : Nat} {tt : DT} {te : DE} (p : W → Bool) (f : W → W) {ws : List W} {x : Sl} {τ : Tau} {S : Store} (hi : i < τ.length) (hpl : (τ.getD i .no).plain = true) (hk : (τ.any Sl.isPk) = false) (hd : di τ S = .ok (x, ws) τ S)
    (h1 : ∀ w ∈ ws, tt (τ.set i (.val w)) S = .ok (p w) (τ.set i (.val w)) S) (h2 : ∀ w ∈ ws, p w = true → dKeep te (τ.set i (.val w)) S = .ok (.val (f w)) (τ.set i (.val w)) S) (h3 : ws.length ≤ seqLine) :
    dLc di (.one i) [i] tt te τ S = .ok (.own (.lst ((ws.filter p).map f))) τ S := by
  unfold dLc
  rw [hd]
  show (if _ ∧ _ then _ else _) = _
  rw [if_pos ⟨by rw [List.all_cons, hpl] <;> rfl, hk⟩]
  show (lcLoop (.one i) [i] tt (dKeep te) ws [] (τ.set i .no) S).bind _ = _
  rw [lc_fm1 hi hk ws h1 h2 (by simpa using h3)]
  show R.ok _ (mend τ (τ.set i .no) [i]) S = _
  have : mend τ (τ.set i .no) [i] = τ := by
    unfold mend mend
    exact set_back hi
  rw [this, List.nil_append]
theorem dLc_m1 {di : DI} {i : Nat} {te : DE} (f : W → W) {ws : List W} {x : Sl} {τ : Tau} {S : Store} (hi : i < τ.length) (hpl : (τ.getD i .no).plain = true) (hk : (τ.any Sl.isPk) = false) (hd : di τ S = .ok (x, ws) τ S)
    (h2 : ∀ w ∈ ws, dKeep te (τ.set i (.val w)) S = .ok (.val (f w)) (τ.set i (.val w)) S) (h3 : ws.length ≤ seqLine) :
    dLc di (.one i) [i] dYes te τ S = .ok (.own (.lst (ws.map f))) τ S := by
  have := dLc_fm1 (tt := dYes) (fun _ => true) f hi hpl hk hd (fun w _ => rfl) (fun w hw _ => h2 w hw) h3
  rwa [List.filter_eq_self.mpr (fun _ _ => rfl)] at this
/-! ### places -/
theorem atI_nat {α : Type} {xs : List α} {i : Nat} (h : i < xs.length) : L2.atI xs (i : Int) = xs[i]? := by
  unfold L2.atI L2.ixN
  rw [if_pos (Int.natCast_nonneg i), if_pos (by omega)]
  rfl
theorem fIx_tup {xs : List W} {i : Nat} {w : W} (h : xs[i]? = some w) : fIx (.tup xs) (.int i) = some (.val w) := by
  show (L2.atI xs (i : Int)).map Sl.val = _
  rw [atI_nat (List.getElem?_eq_some_iff.mp h).1, h] <;> rfl
theorem fIx_lst {xs : List W} {i : Nat} {w : W} (h : xs[i]? = some w) : fIx (.lst xs) (.int i) = some (.val w) := by
  show (L2.atI xs (i : Int)).map Sl.val = _
  rw [atI_nat (List.getElem?_eq_some_iff.mp h).1, h] <;> rfl
theorem upTo_nat (n : Nat) : VM.upTo 0 n = (List.range' 0 n).map fun (i : Nat) => W.int i := by
  unfold VM.upTo
  rw [← List.range_eq_range']
  exact List.map_congr_left fun i _ => by simp
theorem all_bls {α : Type} (l : List α) (p : α → Bool) : fAll (.lst (l.map fun a => W.bl (p a))) = some (.val (.bl (l.all p))) := by
  have : (l.map fun a => W.bl (p a)) = (l.map p).map W.bl := by rw [List.map_map]; rfl
  rw [this]
  show (W.bls ((l.map p).map W.bl)).map (fun ns => Sl.val (.bl (ns.all id))) = _
  rw [W.bls_map]
  simp [List.all_map]
theorem isIn_str {x y : Str} : opCmp .In (.str x) (.str y) = some (!(Builtin.Str.occurrences y x 0 y.length 1).isEmpty) := rfl
theorem notIn_str {x y : Str} : opCmp .NotIn (.str x) (.str y) = some (!(!(Builtin.Str.occurrences y x 0 y.length 1).isEmpty)) := rfl

open Classical in
theorem dLc_ex {di : DI} {i : Nat} {te : DE} (P : W → W → Prop) {ws : List W} {x : Sl} {τ : Tau} {S : Store} (hi : i < τ.length) (hpl : (τ.getD i .no).plain = true) (hk : (τ.any Sl.isPk) = false) (hd : di τ S = .ok (x, ws) τ S)
    (h2 : ∀ w ∈ ws, ∃ v, P w v ∧ dKeep te (τ.set i (.val w)) S = .ok (.val v) (τ.set i (.val w)) S) (h3 : ws.length ≤ seqLine) :
    ∃ f : W → W, (∀ w ∈ ws, P w (f w)) ∧ dLc di (.one i) [i] dYes te τ S = .ok (.own (.lst (ws.map f))) τ S := by
  refine ⟨fun w => if h : ∃ v, P w v ∧ dKeep te (τ.set i (.val w)) S = .ok (.val v) (τ.set i (.val w)) S then h.choose else .non, fun w hw => ?_, dLc_m1 _ hi hpl hk hd (fun w hw => ?_) h3⟩
  · dsimp only
    rw [dif_pos (h2 w hw)]
    exact (h2 w hw).choose_spec.1
  · rw [dif_pos (h2 w hw)]
    exact (h2 w hw).choose_spec.2
theorem strs_typed {P : Str → Prop} : ∀ {ws : List W}, (∀ w ∈ ws, ∃ x, w = .str x ∧ P x) → ∃ l : List Str, ws = l.map .str ∧ ∀ x ∈ l, P x
  | [], _ => ⟨[], rfl, fun _ h => by cases h⟩
  | w :: ws, h => by
    obtain ⟨x, rfl, hx⟩ := h w List.mem_cons_self
    obtain ⟨l, e, q⟩ := strs_typed (P := P) fun u hu => h u (List.mem_cons_of_mem _ hu)
    exact ⟨x :: l, by rw [e]; rfl, fun y hy => by
      rcases List.mem_cons.mp hy with rfl | hy
      · exact hx
      · exact q y hy⟩
theorem upTo_len {n : Nat} : (VM.upTo 0 n).length = n := by unfold VM.upTo; simp
theorem upTo_mem {n : Nat} {w : W} (h : w ∈ VM.upTo 0 n) : ∃ i : Int, w = .int i ∧ 0 ≤ i ∧ i < n := by
  unfold VM.upTo at h
  obtain ⟨i, hi, rfl⟩ := List.mem_map.mp h
  have := List.mem_range.mp hi
  exact ⟨0 + i, rfl, by omega, by omega⟩
theorem ix_strs {l : List Str} {j : Int} (h0 : 0 ≤ j) (h1 : j < (l.length : Int)) : ∃ x ∈ l, fIx (.lst (l.map .str)) (.int j) = some (.val (.str x)) := by
  obtain ⟨i, rfl⟩ := Int.eq_ofNat_of_zero_le h0
  have hi : i < l.length := by omega
  exact ⟨l[i], List.getElem_mem hi, fIx_lst (by rw [List.getElem?_map, List.getElem?_eq_getElem hi] <;> rfl)⟩
end VM

set_option Elab.async false
set_option linter.all false
set_option maxRecDepth 10000
/-! PL2: cuts, sums of lists and texts. -/
namespace VM
open PySem
@[simp] theorem dPart_none {τ : Tau} {S : Store} : dPart none τ S = .ok none τ S := (rfl)
@[simp] theorem dPart_some {d : DE} {τ : Tau} {S : Store} : dPart (some d) τ S = (d τ S).bind fun x τ S => (match x with
    | .val (.int i) => .ok (some i) τ S
    | _ => .no) := (rfl)
@[simp] theorem dSlice_eq {a : DE} {lo hi : Option DE} {τ : Tau} {S : Store} : dSlice a lo hi τ S = (a τ S).bind fun x τ S => (dPart lo τ S).bind fun l τ S => (dPart hi τ S).bind fun h τ S => R.of ((x.rdS S).bind fun w => fSlice w l h) τ S := (rfl)
@[simp] theorem fSlice_lst {xs : List W} {lo hi : Option Int} : fSlice (.lst xs) lo hi = some (.own (.lst (cutW xs lo hi))) := (rfl)
@[simp] theorem fSlice_tup {xs : List W} {lo hi : Option Int} : fSlice (.tup xs) lo hi = some (.val (.tup (cutW xs lo hi))) := (rfl)
@[simp] theorem fSlice_str {x : Str} {lo hi : Option Int} : fSlice (.str x) lo hi = some (.val (.str (L2.cutS x lo hi))) := (rfl)
@[simp] theorem fTuple_lst {xs : List W} : fTuple (.lst xs) = some (.val (.tup xs)) := (rfl)
@[simp] theorem fTuple_tup {xs : List W} : fTuple (.tup xs) = some (.val (.tup xs)) := (rfl)
@[simp] theorem fList_lst {xs : List W} : fList (.lst xs) = some (.own (.lst xs)) := (rfl)
@[simp] theorem fList_tup {xs : List W} : fList (.tup xs) = some (.own (.lst xs)) := (rfl)
theorem cutW_len {xs : List W} {lo hi : Option Int} : (cutW xs lo hi).length ≤ xs.length := by
  unfold cutW
  rw [List.length_take, List.length_drop]
  omega
theorem cutW_mem {xs : List W} {lo hi : Option Int} {w : W} (h : w ∈ cutW xs lo hi) : w ∈ xs := List.mem_of_mem_drop (List.mem_of_mem_take h)
theorem opAdd_lst {a b : List W} (h : a.length + b.length ≤ 1000000) : opAdd (.lst a) (.lst b) = some (.own (.lst (a ++ b))) := if_pos h
theorem cutS_len {x : Str} {lo hi : Option Int} : (L2.cutS x lo hi).length ≤ x.length := L2.cutS_length x lo hi
theorem opAdd_str {a b : Str} (h : a.length + b.length ≤ 1000000) : opAdd (.str a) (.str b) = some (.val (.str (a ++ b))) := if_pos (by show _ ≤ 4194304; omega)
open Classical in
theorem dLc_fex {di : DI} {i : Nat} {tt : DT} {te : DE} (p : W → Bool) (P : W → W → Prop) {ws : List W} {x : Sl} {τ : Tau} {S : Store} (hi : i < τ.length) (hpl : (τ.getD i .no).plain = true) (hk : (τ.any Sl.isPk) = false) (hd : di τ S = .ok (x, ws) τ S)
    (h1 : ∀ w ∈ ws, tt (τ.set i (.val w)) S = .ok (p w) (τ.set i (.val w)) S)
    (h2 : ∀ w ∈ ws, p w = true → ∃ v, P w v ∧ dKeep te (τ.set i (.val w)) S = .ok (.val v) (τ.set i (.val w)) S) (h3 : ws.length ≤ seqLine) :
    ∃ f : W → W, (∀ w ∈ ws, p w = true → P w (f w)) ∧ dLc di (.one i) [i] tt te τ S = .ok (.own (.lst ((ws.filter p).map f))) τ S := by
  refine ⟨fun w => if h : ∃ v, P w v ∧ dKeep te (τ.set i (.val w)) S = .ok (.val v) (τ.set i (.val w)) S then h.choose else .non, fun w hw hp => ?_, dLc_fm1 p _ hi hpl hk hd h1 (fun w hw hp => ?_) h3⟩
  · dsimp only
    rw [dif_pos (h2 w hw hp)]
    exact (h2 w hw hp).choose_spec.1
  · rw [dif_pos (h2 w hw hp)]
    exact (h2 w hw hp).choose_spec.2
end VM

set_option Elab.async false
set_option linter.all false
set_option maxRecDepth 10000
/-! PL3: comprehensions with any target. -/
namespace VM
open PySem
theorem lc_gen {t : Tg} {vs : List Nat} {te : DE} {f : W → W} {S : Store} {τ : Tau} (τw : W → Tau) : ∀ (ws : List W) {acc : List W},
    (∀ w ∈ ws, t.put w τ = some (τw w) ∧ wipeT (τw w) vs = τ ∧ ((τw w).any Sl.isPk) = false ∧ te (τw w) S = .ok (.val (f w)) (τw w) S) → acc.length + ws.length ≤ seqLine →
    lcLoop t vs dYes te ws acc τ S = .ok (acc ++ ws.map f) τ S
  | [], acc, _, _ => by simp [lcLoop]
  | w :: ws, acc, h, h3 => by
    obtain ⟨h1, h2, h4, h5⟩ := h w List.mem_cons_self
    have hl : acc.length < seqLine := by rw [List.length_cons] at h3; omega
    have ih := lc_gen (f := f) τw ws (acc := acc ++ [f w]) (fun u hu => h u (List.mem_cons_of_mem _ hu)) (by simp at h3 ⊢; omega)
    unfold lcLoop
    rw [h1]
    show ((te (τw w) S).noEx.bind _) = _
    rw [h5]
    show (if _ ∧ _ then _ else _) = _
    rw [if_pos ⟨h4, hl⟩, h2, ih, List.map_cons, List.append_assoc] <;> rfl
theorem dLc_gen {di : DI} {t : Tg} {vs : List Nat} {te : DE} (f : W → W) (τw : W → Tau) {ws : List W} {x : Sl} {τ : Tau} {S : Store} (hpl : (vs.all fun v => (τ.getD v .no).plain) = true) (hk : (τ.any Sl.isPk) = false) (hwi : wipeT τ vs = τ) (hme : mend τ τ vs = τ)
    (hd : di τ S = .ok (x, ws) τ S) (h : ∀ w ∈ ws, t.put w τ = some (τw w) ∧ wipeT (τw w) vs = τ ∧ ((τw w).any Sl.isPk) = false ∧ dKeep te (τw w) S = .ok (.val (f w)) (τw w) S) (h3 : ws.length ≤ seqLine) :
    dLc di t vs dYes te τ S = .ok (.own (.lst (ws.map f))) τ S := by
  unfold dLc
  rw [hd]
  show (if _ ∧ _ then _ else _) = _
  rw [if_pos ⟨hpl, hk⟩]
  show (lcLoop t vs dYes (dKeep te) ws [] (wipeT τ vs) S).bind _ = _
  rw [hwi, lc_gen (f := f) τw ws h (by simpa using h3)]
  show R.ok _ (mend τ τ vs) S = _
  rw [hme, List.nil_append]
end VM

set_option Elab.async false
set_option linter.all false
set_option maxRecDepth 10000
/-! PL4: loops by what holds along them. -/
namespace VM
open PySem
/-- one turn of a loop -/
def turn (g : DG) (b : DS) (w : W) : DS := fun τ S => match g (.val w) τ S with
  | .nx τ S => b τ S
  | .ex C τ S => .ex C τ S
  | _ => .no
theorem dLoop_turn {g : DG} {b : DS} {w : W} {ws : List W} {τ : Tau} {S : Store} : dLoop g b (w :: ws) τ S = match turn g b w τ S with
    | .nx τ S => dLoop g b ws τ S
    | .ct τ S => dLoop g b ws τ S
    | .bk τ S => .nx τ S
    | o => o := by
  conv => lhs; unfold dLoop
  unfold turn
  cases g (.val w) τ S <;> rfl
theorem loop_inv {α : Type} (e : α → W) {g : DG} {b : DS} (I : List α → Tau → Store → Prop) : ∀ (l : List α) (pre : List α) {τ : Tau} {S : Store}, I pre τ S →
    (∀ (p : List α) (x : α) (q : List α) (τ : Tau) (S : Store), pre ++ l = p ++ x :: q → I p τ S → ∃ τ2 S2, (turn g b (e x) τ S = .nx τ2 S2 ∨ turn g b (e x) τ S = .ct τ2 S2) ∧ I (p ++ [x]) τ2 S2) →
    ∃ τ' S', I (pre ++ l) τ' S' ∧ dLoop g b (l.map e) τ S = .nx τ' S'
  | [], pre, τ, S, h, _ => ⟨τ, S, by rwa [List.append_nil], rfl⟩
  | x :: l, pre, τ, S, h, st => by
    obtain ⟨τ2, S2, e2, h2⟩ := st pre x l τ S rfl h
    have app : pre ++ x :: l = (pre ++ [x]) ++ l := by simp
    obtain ⟨τ3, S3, h3, e3⟩ := loop_inv e I l (pre ++ [x]) h2 (fun p y q τ S hp => st p y q τ S (by rw [app]; exact hp))
    rw [app]
    refine ⟨τ3, S3, h3, ?_⟩
    rw [List.map_cons, dLoop_turn]
    rcases e2 with e2 | e2 <;> rw [e2] <;> exact e3
/-- .. where turns may leave the loop -/
theorem loop_out {α : Type} (e : α → W) {g : DG} {b : DS} (I : List α → Tau → Store → Prop) (Q : O → Prop) : ∀ (l : List α) (pre : List α) {τ : Tau} {S : Store}, I pre τ S →
    (∀ (p : List α) (x : α) (q : List α) (τ : Tau) (S : Store), pre ++ l = p ++ x :: q → I p τ S → match turn g b (e x) τ S with
      | .nx τ2 S2 => I (p ++ [x]) τ2 S2
      | .ct τ2 S2 => I (p ++ [x]) τ2 S2
      | .bk τ2 S2 => Q (.nx τ2 S2)
      | o => Q o) → (∀ τ S, I (pre ++ l) τ S → Q (.nx τ S)) → Q (dLoop g b (l.map e) τ S)
  | [], pre, τ, S, h, _, f => f τ S (by rwa [List.append_nil])
  | x :: l, pre, τ, S, h, st, f => by
    have s := st pre x l τ S rfl h
    have app : pre ++ x :: l = (pre ++ [x]) ++ l := by simp
    rw [List.map_cons, dLoop_turn]
    have ih := fun (τ2 : Tau) (S2 : Store) (h2 : I (pre ++ [x]) τ2 S2) => loop_out e I Q l (pre ++ [x]) h2 (fun p y q τ S hp => st p y q τ S (by rw [app]; exact hp)) (fun τ S hh => f τ S (by rw [app]; exact hh))
    cases t : turn g b (e x) τ S with
    | nx τ2 S2 => rw [t] at s; exact ih τ2 S2 s
    | ct τ2 S2 => rw [t] at s; exact ih τ2 S2 s
    | bk τ2 S2 => rw [t] at s; exact s
    | rt r τ2 S2 => rw [t] at s; exact s
    | ex C τ2 S2 => rw [t] at s; exact s
    | no => rw [t] at s; exact s
@[simp] theorem iRange2_eq {a : DA} {τ : Tau} {S : Store} : iRange2 a τ S = (a τ S).bind fun rs τ S => R.of ((rng2 rs).map fun ws => (.val .non, ws)) τ S := (rfl)
theorem rng2_ok {i j : Int} (h0 : -(2 ^ 62) ≤ i) (h1 : i < 2 ^ 62) (h2 : -(2 ^ 62) ≤ j) (h3 : j < 2 ^ 62) : rng2 [.val (.int i), .val (.int j)] = some (VM.upTo i (j - i).toNat) := if_pos ⟨h0, h1, h2, h3⟩
theorem cut_take {xs : List W} {i : Nat} (h : i ≤ xs.length) : cutW xs none (some (i : Int)) = xs.take i := by
  have n0 : ¬ ((i : Int) < 0) := by omega
  unfold cutW HT.sIx
  simp [n0, Nat.min_eq_left h]
theorem upTo_ints (n : Nat) : VM.upTo 0 n = (List.range n).map fun (i : Nat) => W.int (i : Int) := by
  unfold VM.upTo
  exact List.map_congr_left fun i _ => by simp
/-- a place in what is gone along by numbers -/
theorem range_split {n : Nat} {p q : List Nat} {x : Nat} (h : List.range n = p ++ x :: q) : x = p.length ∧ p.length < n ∧ p = List.range p.length := by
  have hl := congrArg List.length h
  rw [List.length_range, List.length_append, List.length_cons] at hl
  have hx : (List.range n)[p.length]? = some x := by rw [h]; simp
  have lt : p.length < n := by omega
  rw [List.getElem?_range lt] at hx
  have hp : (List.range n).take p.length = p := by rw [h]; simp
  rw [List.take_range] at hp
  refine ⟨(Option.some.inj hx).symm, lt, ?_⟩
  rw [Nat.min_eq_left (by omega)] at hp
  exact hp.symm
/-- two lists, place by place -/
inductive All2 {α β : Type} (R : α → β → Prop) : List α → List β → Prop
  | nil : All2 R [] []
  | cons {a : α} {b : β} {l : List α} {m : List β} : R a b → All2 R l m → All2 R (a :: l) (b :: m)
theorem All2.append {α β : Type} {R : α → β → Prop} {l l' : List α} {m m' : List β} (h : All2 R l m) (g : All2 R l' m') : All2 R (l ++ l') (m ++ m') := by
  induction h with
  | nil => exact g
  | cons a _ ih => exact .cons a ih
theorem All2.imp {α β : Type} {R R' : α → β → Prop} (f : ∀ a b, R a b → R' a b) {l : List α} {m : List β} (h : All2 R l m) : All2 R' l m := by
  induction h with
  | nil => exact .nil
  | cons a _ ih => exact .cons (f _ _ a) ih
theorem All2.length {α β : Type} {R : α → β → Prop} {l : List α} {m : List β} (h : All2 R l m) : l.length = m.length := by
  induction h with
  | nil => rfl
  | cons _ _ ih => rw [List.length_cons, List.length_cons, ih]
end VM

set_option Elab.async false
set_option linter.all false
set_option maxRecDepth 10000
/-! PL5: comprehensions of one name over typed things. -/
namespace VM
open PySem
section
variable {α : Type} {i : Nat} {tt : DT} {te : DE} {τ : Tau}
theorem wipe1 {w : W} : wipeT (τ.set i (.val w)) [i] = τ.set i .no := by
  unfold wipeT wipeT
  exact List.set_set ..
/-- with a test, the store stays -/
theorem lc_ty (e : α → W) (p : α → Bool) (f : α → W) {S : Store} (hi : i < τ.length) (hk : (τ.any Sl.isPk) = false) : ∀ (l : List α) {acc : List W}, (∀ a ∈ l, tt (τ.set i (.val (e a))) S = .ok (p a) (τ.set i (.val (e a))) S) →
    (∀ a ∈ l, p a = true → te (τ.set i (.val (e a))) S = .ok (.val (f a)) (τ.set i (.val (e a))) S) → acc.length + l.length ≤ seqLine → lcLoop (.one i) [i] tt te (l.map e) acc (τ.set i .no) S = .ok (acc ++ (l.filter p).map f) (τ.set i .no) S
  | [], acc, _, _, _ => by simp [lcLoop]
  | a :: l, acc, h1, h2, h3 => by
    have e1 : (τ.set i .no).set i (.val (e a)) = τ.set i (.val (e a)) := List.set_set ..
    have hp : ((τ.set i (.val (e a))).any Sl.isPk) = false := any_set hk rfl
    have hl : acc.length < seqLine := by rw [List.length_cons] at h3; omega
    have r1 : ∀ u ∈ l, tt (τ.set i (.val (e u))) S = .ok (p u) (τ.set i (.val (e u))) S := fun u hu => h1 u (List.mem_cons_of_mem _ hu)
    have r2 : ∀ u ∈ l, p u = true → te (τ.set i (.val (e u))) S = .ok (.val (f u)) (τ.set i (.val (e u))) S := fun u hu => h2 u (List.mem_cons_of_mem _ hu)
    rw [List.map_cons]
    unfold lcLoop
    show ((tt ((τ.set i .no).set i (.val (e a))) S).noEx.bind _) = _
    rw [e1, h1 a List.mem_cons_self]
    show (match p a with | true => _ | false => _) = _
    cases hpw : p a with
    | true =>
      show ((te (τ.set i (.val (e a))) S).noEx.bind _) = _
      rw [h2 a List.mem_cons_self hpw]
      show (if _ ∧ _ then _ else _) = _
      rw [if_pos ⟨hp, hl⟩, wipe1, lc_ty e p f hi hk l r1 r2 (by simp at h3 ⊢; omega), List.filter_cons_of_pos (by rw [hpw]), List.map_cons, List.append_assoc]
      rfl
    | false =>
      show lcLoop (.one i) [i] tt te (l.map e) acc (wipeT (τ.set i (.val (e a))) [i]) S = _
      rw [wipe1, lc_ty e p f hi hk l r1 r2 (by simp at h3 ⊢; omega), List.filter_cons_of_neg (by rw [hpw]; decide)]
theorem dLc_ty (e : α → W) (p : α → Bool) (f : α → W) {di : DI} (l : List α) {x : Sl} {S : Store} (hi : i < τ.length) (hpl : (τ.getD i .no).plain = true) (hk : (τ.any Sl.isPk) = false) (hd : di τ S = .ok (x, l.map e) τ S)
    (h1 : ∀ a ∈ l, tt (τ.set i (.val (e a))) S = .ok (p a) (τ.set i (.val (e a))) S) (h2 : ∀ a ∈ l, p a = true → dKeep te (τ.set i (.val (e a))) S = .ok (.val (f a)) (τ.set i (.val (e a))) S) (h3 : l.length ≤ 1000000) :
    dLc di (.one i) [i] tt te τ S = .ok (.own (.lst ((l.filter p).map f))) τ S := by
  unfold dLc
  rw [hd]
  show (if _ ∧ _ then _ else _) = _
  rw [if_pos ⟨by rw [List.all_cons, hpl] <;> rfl, hk⟩]
  show (lcLoop (.one i) [i] tt (dKeep te) (l.map e) [] (τ.set i .no) S).bind _ = _
  rw [lc_ty e p f hi hk l h1 h2 (by simpa using line_le h3)]
  show R.ok _ (mend τ (τ.set i .no) [i]) S = _
  have : mend τ (τ.set i .no) [i] = τ := by
    unfold mend mend
    exact set_back hi
  rw [this, List.nil_append]
theorem dLc_ty1 (e : α → W) (f : α → W) {di : DI} (l : List α) {x : Sl} {S : Store} (hi : i < τ.length) (hpl : (τ.getD i .no).plain = true) (hk : (τ.any Sl.isPk) = false) (hd : di τ S = .ok (x, l.map e) τ S)
    (h2 : ∀ a ∈ l, dKeep te (τ.set i (.val (e a))) S = .ok (.val (f a)) (τ.set i (.val (e a))) S) (h3 : l.length ≤ 1000000) :
    dLc di (.one i) [i] dYes te τ S = .ok (.own (.lst (l.map f))) τ S := by
  have := dLc_ty (tt := dYes) e (fun _ => true) f l hi hpl hk hd (fun a _ => rfl) (fun a ha _ => h2 a ha) h3
  rwa [List.filter_eq_self.mpr (fun _ _ => rfl)] at this
/-- the store may change: what holds along the way -/
theorem lc_inv (htt : ∀ τ S, tt τ S = .ok true τ S) (e : α → W) (I : List α → List W → Store → Prop) (hk : (τ.any Sl.isPk) = false) : ∀ (l pre : List α) {acc : List W} {S : Store}, I pre acc S →
    (∀ (p : List α) (a : α) (q : List α) (acc : List W) (S : Store), pre ++ l = p ++ a :: q → I p acc S → ∃ v S', te (τ.set i (.val (e a))) S = .ok (.val v) (τ.set i (.val (e a))) S' ∧ I (p ++ [a]) (acc ++ [v]) S') → acc.length + l.length ≤ seqLine →
    ∃ acc' S', I (pre ++ l) acc' S' ∧ lcLoop (.one i) [i] tt te (l.map e) acc (τ.set i .no) S = .ok acc' (τ.set i .no) S'
  | [], pre, acc, S, h, _, _ => ⟨acc, S, by rwa [List.append_nil], by simp [lcLoop]⟩
  | a :: l, pre, acc, S, h, st, h3 => by
    obtain ⟨v, S2, e2, h2⟩ := st pre a l acc S rfl h
    have app : pre ++ a :: l = (pre ++ [a]) ++ l := by simp
    have e1 : (τ.set i .no).set i (.val (e a)) = τ.set i (.val (e a)) := List.set_set ..
    have hp : ((τ.set i (.val (e a))).any Sl.isPk) = false := any_set hk rfl
    have hl : acc.length < seqLine := by rw [List.length_cons] at h3; omega
    obtain ⟨acc', S', h4, e4⟩ := lc_inv htt e I hk l (pre ++ [a]) h2 (fun p y q acc S hq => st p y q acc S (by rw [app]; exact hq)) (by simp at h3 ⊢; omega)
    rw [app]
    refine ⟨acc', S', h4, ?_⟩
    rw [List.map_cons]
    unfold lcLoop
    show ((tt ((τ.set i .no).set i (.val (e a))) S).noEx.bind _) = _
    rw [e1, htt]
    show ((te (τ.set i (.val (e a))) S).noEx.bind _) = _
    rw [e2]
    show (if _ ∧ _ then _ else _) = _
    rw [if_pos ⟨hp, hl⟩, wipe1, e4]
theorem dLc_inv (e : α → W) (I : List α → List W → Store → Prop) {di : DI} (l : List α) {x : Sl} {S S1 : Store} (hi : i < τ.length) (hpl : (τ.getD i .no).plain = true) (hk : (τ.any Sl.isPk) = false) (hd : di τ S = .ok (x, l.map e) τ S1) (h0 : I [] [] S1)
    (st : ∀ (p : List α) (a : α) (q : List α) (acc : List W) (S : Store), l = p ++ a :: q → I p acc S → ∃ v S', dKeep te (τ.set i (.val (e a))) S = .ok (.val v) (τ.set i (.val (e a))) S' ∧ I (p ++ [a]) (acc ++ [v]) S') (h3 : l.length ≤ 1000000) :
    ∃ acc' S', I l acc' S' ∧ dLc di (.one i) [i] dYes te τ S = .ok (.own (.lst acc')) τ S' := by
  obtain ⟨acc', S', h, e'⟩ := lc_inv (tt := dYes) (te := dKeep te) (fun _ _ => rfl) e I hk l [] h0 (fun p a q acc S hq => st p a q acc S (by simpa using hq)) (by simpa using line_le h3)
  refine ⟨acc', S', by simpa using h, ?_⟩
  unfold dLc
  rw [hd]
  show (if _ ∧ _ then _ else _) = _
  rw [if_pos ⟨by rw [List.all_cons, hpl] <;> rfl, hk⟩]
  show (lcLoop (.one i) [i] dYes (dKeep te) (l.map e) [] (τ.set i .no) S1).bind _ = _
  rw [e']
  show R.ok _ (mend τ (τ.set i .no) [i]) S' = _
  have : mend τ (τ.set i .no) [i] = τ := by
    unfold mend mend
    exact set_back hi
  rw [this]
end
@[simp] theorem put_tup2 {i j : Nat} {a b : W} {τ : Tau} : (Tg.tup [i, j]).put (.tup [a, b]) τ = some ((τ.set i (.val a)).set j (.val b)) := (rfl)
@[simp] theorem put_tup3 {i j k : Nat} {a b c : W} {τ : Tau} : (Tg.tup [i, j, k]).put (.tup [a, b, c]) τ = some (((τ.set i (.val a)).set j (.val b)).set k (.val c)) := (rfl)
theorem turn_one {i : Nat} {b : DS} {w : W} {τ : Tau} {S : Store} : turn (gTg (.one i)) b w τ S = b (τ.set i (.val w)) S := (rfl)
theorem turn_tup2 {i j : Nat} {a c : W} {b : DS} {τ : Tau} {S : Store} : turn (gTg (.tup [i, j])) b (.tup [a, c]) τ S = b ((τ.set i (.val a)).set j (.val c)) S := (rfl)
theorem turn_tup3 {i j k : Nat} {a c d : W} {b : DS} {τ : Tau} {S : Store} : turn (gTg (.tup [i, j, k])) b (.tup [a, c, d]) τ S = b (((τ.set i (.val a)).set j (.val c)).set k (.val d)) S := (rfl)
theorem seq_nx {a b : DS} {τ τ' : Tau} {S S' : Store} (h : a τ S = .nx τ' S') : dSeq a b τ S = b τ' S' := by
  rw [dSeq_eq, h]
theorem seq_rt {a b : DS} {τ τ' : Tau} {S S' : Store} {r : Sl} (h : a τ S = .rt r τ' S') : dSeq a b τ S = .rt r τ' S' := by
  rw [dSeq_eq, h]
theorem upTo_natI (n : Nat) : VM.upTo 0 n = (List.range n).map fun (i : Nat) => W.int (i : Int) := upTo_ints n
end VM

set_option Elab.async false
set_option linter.all false
set_option maxRecDepth 10000
/-! PL6: how boxes in displays, == through handles and pairs are read. -/
namespace VM
open PySem
open Enc (enc)
@[simp] theorem dCmpH_eq {op : CmpOp} {a b : DE} {τ : Tau} {S : Store} : dCmpH op a b τ S = (a τ S).bind fun x τ S => (b τ S).bind fun y τ S => R.of (match x.rdS S, y.rdS S with
  | some x, some y => (opCmpH op S x y).map fun k => Sl.val (.bl k)
  | _, _ => none) τ S := (rfl)
@[simp] theorem dCmpHT_eq {op : CmpOp} {a b : DE} {τ : Tau} {S : Store} : dCmpHT op a b τ S = (a τ S).bind fun x τ S => (b τ S).bind fun y τ S => R.of (match x.rdS S, y.rdS S with
  | some x, some y => opCmpH op S x y
  | _, _ => none) τ S := (rfl)
theorem dBx_eq {a : DE} {τ : Tau} {S : Store} : dBx a τ S = (a τ S).bind fun x τ S => match x with
  | .own m => if (τ.any Sl.isPk) = false then .ok (.val (.hnd S.next)) τ (S.box m) else .no
  | .val w => .ok (.val w) τ S
  | _ => .no := (rfl)
@[simp] theorem dPar2_eq {i j : Nat} {a : DA} {τ : Tau} {S : Store} : dPar2 i j a τ S = (a τ S).thenS fun rs τ S => match rs with
  | [x, y] => if x.fine && y.fine then .nx ((τ.set j y).set i x) S else .no
  | _ => .no := (rfl)
@[simp] theorem dPar3_eq {i j l : Nat} {a : DA} {τ : Tau} {S : Store} : dPar3 i j l a τ S = (a τ S).thenS fun rs τ S => match rs with
  | [x, y, z] => if x.fine && y.fine && z.fine then .nx (((τ.set l z).set j y).set i x) S else .no
  | _ => .no := (rfl)
@[simp] theorem fine_val {w : W} : (Sl.val w).fine = true := (rfl)
@[simp] theorem fine_own {m : MO} : (Sl.own m).fine = true := (rfl)
@[simp] theorem deep_tup {S : Store} {xs : List W} : W.deep S (.tup xs) = .tup (W.deeps S xs) := by unfold W.deep; rfl
@[simp] theorem deep_lst {S : Store} {xs : List W} : W.deep S (.lst xs) = .lst (W.deeps S xs) := by unfold W.deep; rfl
@[simp] theorem deeps_nil {S : Store} : W.deeps S [] = [] := by unfold W.deeps; rfl
@[simp] theorem deeps_cons {S : Store} {w : W} {r : List W} : W.deeps S (w :: r) = W.deep S w :: W.deeps S r := by rw [W.deeps]
@[simp] theorem deep_str {S : Store} {x : Str} : W.deep S (.str x) = .str x := by unfold W.deep; rfl
@[simp] theorem deep_int {S : Store} {x : Int} : W.deep S (.int x) = .int x := by unfold W.deep; rfl
@[simp] theorem deep_bl {S : Store} {x : Bool} : W.deep S (.bl x) = .bl x := by unfold W.deep; rfl
@[simp] theorem deep_non {S : Store} : W.deep S .non = .non := by unfold W.deep; rfl
theorem deep_hnd {S : Store} {n : Nat} {w : W} (h : cellW S.cells n = some w) : W.deep S (.hnd n) = w := by unfold W.deep; rw [h]
/-! no handle in it: it is what it is -/
mutual
theorem deep_dat {S : Store} : ∀ (w : W) (d : PyData), w.toD = some d → W.deep S w = w
  | .tup xs, d, h => by
    obtain ⟨ds, e, _⟩ := Option.map_eq_some_iff.mp (show (W.toDs xs).map PyData.tuple = some d by unfold W.toD at h; exact h)
    rw [deep_tup, deeps_dat xs ds e]
  | .lst xs, d, h => by
    obtain ⟨ds, e, _⟩ := Option.map_eq_some_iff.mp (show (W.toDs xs).map PyData.list = some d by unfold W.toD at h; exact h)
    rw [deep_lst, deeps_dat xs ds e]
  | .hnd n, d, h => by unfold W.toD at h; cases h
  | .non, _, _ => by simp
  | .bl _, _, _ => by simp
  | .int _, _, _ => by simp
  | .str _, _, _ => by simp
  | .dic _ _, _, h => by unfold W.toD at h; cases h
  | .obj _ _ _, _, h => by unfold W.toD at h; cases h
  | .exc _, _, h => by unfold W.toD at h; cases h
theorem deeps_dat {S : Store} : ∀ (ws : List W) (ds : List PyData), W.toDs ws = some ds → W.deeps S ws = ws
  | [], _, _ => by simp
  | w :: ws, ds, h => by
    unfold W.toDs at h
    cases e1 : W.toD w with
    | none => rw [e1] at h; cases h
    | some d =>
      rw [e1] at h
      cases e2 : W.toDs ws with
      | none => rw [e2] at h; cases h
      | some es => rw [deeps_cons, deep_dat w d e1, deeps_dat ws es e2]
end
@[simp] theorem opCmpH_int {op : CmpOp} {S : Store} {a b : Int} : opCmpH op S (.int a) (.int b) = opCmp op (.int a) (.int b) := by
  cases op <;> first | rfl | (unfold opCmpH; simp only [deep_int]; rfl)
@[simp] theorem opCmpH_str {op : CmpOp} {S : Store} {a b : Str} : opCmpH op S (.str a) (.str b) = opCmp op (.str a) (.str b) := by
  cases op <;> first | rfl | (unfold opCmpH; simp only [deep_str]; rfl)
@[simp] theorem opCmpH_in {S : Store} {a b : W} : opCmpH .In S a b = opCmp .In a b := rfl
@[simp] theorem opCmpH_notIn {S : Store} {a b : W} : opCmpH .NotIn S a b = opCmp .NotIn a b := rfl
theorem opCmpH_eq {S : Store} {a b a' b' : W} (ha : a.deep S = a') (hb : b.deep S = b') : opCmpH .Eq S a b = opCmp .Eq a' b' := by
  unfold opCmpH; rw [ha, hb] <;> rfl
theorem opCmpH_ne {S : Store} {a b a' b' : W} (ha : a.deep S = a') (hb : b.deep S = b') : opCmpH .NotEq S a b = opCmp .NotEq a' b' := by
  unfold opCmpH; rw [ha, hb] <;> rfl
theorem cut_mid {xs : List W} {i j : Nat} (h1 : i ≤ j) (h2 : j ≤ xs.length) : cutW xs (some (i : Int)) (some (j : Int)) = (xs.drop i).take (j - i) := by
  unfold cutW
  rw [HT.sIx_nat, HT.sIx_nat, Nat.min_eq_left h2, Nat.min_eq_left (Nat.le_trans h1 h2)]
theorem deep_enc {α : Type} [Enc α] {S : Store} (a : α) : W.deep S (enc a) = enc a := by
  obtain ⟨d, h, _⟩ := Enc.dat a
  exact deep_dat _ d h
end VM

set_option Elab.async false
set_option linter.all false
set_option maxRecDepth 10000
/-! PL7: while loops that count down; comprehensions whose first turn freezes what it hands on. -/
namespace VM
open PySem
theorem wh_down {c : DT} {b : DS} {S : Store} (I : Nat → Tau → Prop) (h0 : ∀ τ, I 0 τ → c τ S = .ok false τ S) (hs : ∀ n τ, I (n + 1) τ → c τ S = .ok true τ S ∧ ∃ τ', b τ S = .nx τ' S ∧ I n τ') : ∀ n m τ, n < m → I n τ → ∃ τ', dWh c b m τ S = .nx τ' S ∧ I 0 τ'
  | 0, m + 1, τ, hm, h => ⟨τ, by unfold dWh; rw [h0 τ h] <;> rfl, h⟩
  | n + 1, m + 1, τ, hm, h => by
    obtain ⟨hc, τ', hb, h'⟩ := hs n τ h
    obtain ⟨τ2, e, h2⟩ := wh_down I h0 hs n m τ' (by omega) h'
    refine ⟨τ2, ?_, h2⟩
    unfold dWh
    rw [hc]
    show (match b τ S with
      | .nx τ S => dWh c b m τ S
      | .ct τ S => dWh c b m τ S
      | .bk τ S => .nx τ S
      | o => o) = _
    rw [hb]
    exact e
theorem while_down {c : DT} {b : DS} {S : Store} (I : Nat → Tau → Prop) (h0 : ∀ τ, I 0 τ → c τ S = .ok false τ S) (hs : ∀ n τ, I (n + 1) τ → c τ S = .ok true τ S ∧ ∃ τ', b τ S = .nx τ' S ∧ I n τ') {n : Nat} {τ : Tau} (hn : n < 1000000) (h : I n τ) : ∃ τ', dWhile c b τ S = .nx τ' S ∧ I 0 τ' :=
  wh_down I h0 hs n whTurns τ hn h
theorem wh_downS {c : DT} {b : DS} (I : Nat → Tau → Store → Prop) (h0 : ∀ τ S, I 0 τ S → c τ S = .ok false τ S) (hs : ∀ n τ S, I (n + 1) τ S → c τ S = .ok true τ S ∧ ∃ τ' S', b τ S = .nx τ' S' ∧ I n τ' S') : ∀ n m τ S, n < m → I n τ S → ∃ τ' S', dWh c b m τ S = .nx τ' S' ∧ I 0 τ' S'
  | 0, m + 1, τ, S, hm, h => ⟨τ, S, by unfold dWh; rw [h0 τ S h] <;> rfl, h⟩
  | n + 1, m + 1, τ, S, hm, h => by
    obtain ⟨hc, τ', S', hb, h'⟩ := hs n τ S h
    obtain ⟨τ2, S2, e, h2⟩ := wh_downS I h0 hs n m τ' S' (by omega) h'
    refine ⟨τ2, S2, ?_, h2⟩
    unfold dWh
    rw [hc]
    show (match b τ S with
      | .nx τ S => dWh c b m τ S
      | .ct τ S => dWh c b m τ S
      | .bk τ S => .nx τ S
      | o => o) = _
    rw [hb]
    exact e
theorem while_downS {c : DT} {b : DS} (I : Nat → Tau → Store → Prop) (h0 : ∀ τ S, I 0 τ S → c τ S = .ok false τ S) (hs : ∀ n τ S, I (n + 1) τ S → c τ S = .ok true τ S ∧ ∃ τ' S', b τ S = .nx τ' S' ∧ I n τ' S') {n : Nat} {τ : Tau} {S : Store} (hn : n < 1000000) (h : I n τ S) : ∃ τ' S', dWhile c b τ S = .nx τ' S' ∧ I 0 τ' S' :=
  wh_downS I h0 hs n whTurns τ S hn h
@[simp] theorem dRngL_eq {d : DE} {τ : Tau} {S : Store} : dRngL d τ S = (dKeep d τ S).bind fun x τ S => R.of (fRngL x) τ S := (rfl)
theorem fRngL_ok {j : Int} (h0 : -(2 ^ 62) ≤ j) (h1 : j < 2 ^ 62) (h2 : j.toNat ≤ 1000000) : fRngL (.val (.int j)) = some (.own (.lst (upTo 0 j.toNat))) := if_pos ⟨h0, h1, h2⟩
theorem fRngL_nat {n : Nat} (h : n ≤ 1000000) : fRngL (.val (.int (n : Int))) = some (.own (.lst ((List.range n).map fun (i : Nat) => W.int (i : Int)))) := by
  have := fRngL_ok (j := (n : Int)) (by omega) (by omega) (by omega)
  rw [this, Int.toNat_natCast, upTo_natI]
theorem dPutO_eq {dv : DE} {j : Nat} {di : DE} {τ : Tau} {S : Store} : dPutO dv j di τ S = ((dKeep dv τ S).bind fun y τ S => match τ[j]? with
  | some (.own _) => (di τ S).bind fun i τ S => R.of (match y, τ[j]? with
    | .val w, some (.own m) => if (τ.any Sl.isPk) = false then (i.rdS S).bind fun wi => fPut m wi w else none
    | _, _ => none) τ S
  | _ => .no).thenS fun m τ S => .nx (τ.set j (.own m)) S := (rfl)
theorem cut_but {xs : List W} {n : Nat} (h0 : 0 < n) (h : n ≤ xs.length) : cutW xs none (some (-(n : Int))) = xs.take (xs.length - n) := by
  have e : HT.sIx xs.length xs.length (some (-(n : Int))) = xs.length - n := by
    show (if -(n : Int) < 0 then (-(n : Int) + (xs.length : Int)).toNat else _) = _
    rw [if_pos (by omega)]
    omega
  unfold cutW
  rw [e]
  show (xs.drop 0).take (xs.length - n - 0) = _
  rw [List.drop_zero, Nat.sub_zero]
theorem fIx_back {xs : List W} {n : Nat} {w : W} (h0 : 0 < n) (h : n ≤ xs.length) (e : xs[xs.length - n]? = some w) : fIx (.lst xs) (.int (-(n : Int))) = some (.val w) := by
  show (L2.atI xs (-(n : Int))).map Sl.val = _
  have e2 : L2.ixN xs.length (-(n : Int)) = some (xs.length - n) := by
    unfold L2.ixN
    rw [if_neg (by omega), if_pos (by omega)]
    congr 1
    omega
  unfold L2.atI
  rw [e2]
  show (xs[xs.length - n]?).map Sl.val = _
  rw [e] <;> rfl
section
variable {α : Type} {i : Nat} {te : DE} {τ τ' : Tau}
theorem lc_two {tt : DT} (htt : ∀ τ S, tt τ S = .ok true τ S) (e : α → W) (f : α → W) (a : α) (l : List α) {S : Store} (hi' : i < τ'.length) (hk' : (τ'.any Sl.isPk) = false)
    (h1 : te (τ.set i (.val (e a))) S = .ok (.val (f a)) (τ'.set i (.val (e a))) S) (h2 : ∀ b ∈ l, te (τ'.set i (.val (e b))) S = .ok (.val (f b)) (τ'.set i (.val (e b))) S) (h3 : 1 + l.length ≤ seqLine) :
    lcLoop (.one i) [i] tt te (e a :: l.map e) [] (τ.set i .no) S = .ok (f a :: l.map f) (τ'.set i .no) S := by
  have e1 : (τ.set i .no).set i (.val (e a)) = τ.set i (.val (e a)) := List.set_set ..
  have hp : ((τ'.set i (.val (e a))).any Sl.isPk) = false := any_set hk' rfl
  unfold lcLoop
  show ((tt ((τ.set i .no).set i (.val (e a))) S).noEx.bind _) = _
  rw [e1, htt]
  show ((te (τ.set i (.val (e a))) S).noEx.bind _) = _
  rw [h1]
  show (if _ ∧ _ then _ else _) = _
  rw [if_pos ⟨hp, by show 0 < 1000000; decide⟩, wipe1, lc_ty (tt := tt) e (fun _ => true) f hi' hk' l (fun _ _ => htt _ _) (fun b hb _ => h2 b hb) (show ([] ++ [f a]).length + l.length ≤ seqLine from h3), List.filter_eq_self.mpr (fun _ _ => rfl)] <;> rfl
theorem dLc_two (e : α → W) (f : α → W) {di : DI} (a : α) (l : List α) {x : Sl} {S : Store} (hi : i < τ.length) (hi' : i < τ'.length) (hz : τ.getD i .no = τ'.getD i .no) (hpl : (τ.getD i .no).plain = true) (hk : (τ.any Sl.isPk) = false) (hk' : (τ'.any Sl.isPk) = false) (hd : di τ S = .ok (x, (a :: l).map e) τ S)
    (h1 : dKeep te (τ.set i (.val (e a))) S = .ok (.val (f a)) (τ'.set i (.val (e a))) S) (h2 : ∀ b ∈ l, dKeep te (τ'.set i (.val (e b))) S = .ok (.val (f b)) (τ'.set i (.val (e b))) S) (h3 : (a :: l).length ≤ 1000000) :
    dLc di (.one i) [i] dYes te τ S = .ok (.own (.lst ((a :: l).map f))) τ' S := by
  unfold dLc
  rw [hd]
  show (if _ ∧ _ then _ else _) = _
  rw [if_pos ⟨by rw [List.all_cons, hpl] <;> rfl, hk⟩]
  show (lcLoop (.one i) [i] dYes (dKeep te) (e a :: l.map e) [] (τ.set i .no) S).bind _ = _
  rw [lc_two (tt := dYes) (te := dKeep te) (fun _ _ => rfl) e f a l hi' hk' h1 h2 (by rw [List.length_cons] at h3; show 1 + l.length ≤ 1000000; omega)]
  show R.ok _ (mend τ (τ'.set i .no) [i]) S = _
  have : mend τ (τ'.set i .no) [i] = τ' := by
    unfold mend mend
    rw [hz]
    exact set_back hi'
  rw [this] <;> rfl
end
theorem fIx_last {xs : List W} {w : W} (h : xs.getLast? = some w) : fIx (.lst xs) (.int (-1)) = some (.val w) := by
  show (L2.atI xs (-1)).map Sl.val = _
  rw [List.getLast?_eq_getElem?] at h
  have lt := (List.getElem?_eq_some_iff.mp h).1
  have e : L2.ixN xs.length (-1) = some (xs.length - 1) := by
    unfold L2.ixN
    rw [if_neg (by decide), if_pos (by omega)]
    congr 1
    omega
  unfold L2.atI
  rw [e]
  show (xs[xs.length - 1]?).map Sl.val = _
  rw [h] <;> rfl
end VM

set_option Elab.async false
set_option linter.all false
set_option maxRecDepth 10000
set_option maxHeartbeats 1000000
/-! PL8: a comprehension that an exception may leave. -/
namespace VM
open PySem
theorem lcX_fm1 {i : Nat} {tt : DT} {te : DE} {p : W → Bool} {f : W → Option W} {Cn : Str} {S : Store} {τ : Tau} (hi : i < τ.length) (hk : (τ.any Sl.isPk) = false) : ∀ (ws : List W) {acc : List W}, (∀ w ∈ ws, tt (τ.set i (.val w)) S = .ok (p w) (τ.set i (.val w)) S) →
    (∀ w ∈ ws, p w = true → te (τ.set i (.val w)) S = match f w with | some v => .ok (.val v) (τ.set i (.val w)) S | none => .ex Cn (τ.set i (.val w)) S) → acc.length + ws.length ≤ seqLine →
    ∃ τ', lcLoopX (.one i) [i] tt te ws acc (τ.set i .no) S = if ((ws.filter p).all fun w => (f w).isSome) = true then .ok (acc ++ (ws.filter p).map fun w => (f w).getD .non) (τ.set i .no) S else .ex Cn τ' S
  | [], acc, _, _, _ => ⟨[], by simp [lcLoopX]⟩
  | w :: ws, acc, h1, h2, h3 => by
    have e1 : (τ.set i .no).set i (.val w) = τ.set i (.val w) := List.set_set ..
    have hw : wipeT (τ.set i (.val w)) [i] = τ.set i .no := by
      unfold wipeT wipeT
      exact List.set_set ..
    have hp : ((τ.set i (.val w)).any Sl.isPk) = false := any_set hk rfl
    have hl : acc.length < seqLine := by rw [List.length_cons] at h3; omega
    have r1 : ∀ u ∈ ws, tt (τ.set i (.val u)) S = .ok (p u) (τ.set i (.val u)) S := fun u hu => h1 u (List.mem_cons_of_mem _ hu)
    have r2 := fun u hu => h2 u (List.mem_cons_of_mem w hu)
    have t1 := h1 w List.mem_cons_self
    cases hpw : p w with
    | true =>
      have t2 := h2 w List.mem_cons_self hpw
      cases hf : f w with
      | some v =>
        rw [hf] at t2
        obtain ⟨τ', ih⟩ := lcX_fm1 hi hk ws (acc := acc ++ [v]) r1 r2 (by simp at h3 ⊢; omega)
        refine ⟨τ', ?_⟩
        unfold lcLoopX
        show ((tt ((τ.set i .no).set i (.val w)) S).bind _) = _
        rw [e1, t1, hpw]
        show ((te (τ.set i (.val w)) S).bind _) = _
        rw [t2]
        show (if _ ∧ _ then _ else _) = _
        rw [if_pos ⟨hp, hl⟩, hw, ih, List.filter_cons_of_pos (by rw [hpw]), List.map_cons, List.all_cons, hf, List.append_assoc]
        rfl
      | none =>
        rw [hf] at t2
        refine ⟨τ.set i (.val w), ?_⟩
        unfold lcLoopX
        show ((tt ((τ.set i .no).set i (.val w)) S).bind _) = _
        rw [e1, t1, hpw]
        show ((te (τ.set i (.val w)) S).bind _) = _
        rw [t2, List.filter_cons_of_pos (by rw [hpw]), List.all_cons, hf]
        rfl
    | false =>
      obtain ⟨τ', ih⟩ := lcX_fm1 hi hk ws (acc := acc) r1 r2 (by simp at h3 ⊢; omega)
      refine ⟨τ', ?_⟩
      unfold lcLoopX
      show ((tt ((τ.set i .no).set i (.val w)) S).bind _) = _
      rw [e1, t1, hpw]
      show lcLoopX _ _ _ _ _ _ (wipeT _ _) _ = _
      rw [hw, ih, List.filter_cons_of_neg (by rw [hpw]; simp)]
theorem dLcX_fm1 {di : DI} {i : Nat} {tt : DT} {te : DE} (p : W → Bool) (f : W → Option W) {Cn : Str} {ws : List W} {x : Sl} {τ : Tau} {S : Store} (hi : i < τ.length) (hpl : (τ.getD i .no).plain = true) (hk : (τ.any Sl.isPk) = false) (hd : di τ S = .ok (x, ws) τ S)
    (h1 : ∀ w ∈ ws, tt (τ.set i (.val w)) S = .ok (p w) (τ.set i (.val w)) S) (h2 : ∀ w ∈ ws, p w = true → dKeep te (τ.set i (.val w)) S = match f w with | some v => .ok (.val v) (τ.set i (.val w)) S | none => .ex Cn (τ.set i (.val w)) S) (h3 : ws.length ≤ seqLine) :
    dLcX di (.one i) [i] tt te τ S = if ((ws.filter p).all fun w => (f w).isSome) = true then .ok (.own (.lst ((ws.filter p).map fun w => (f w).getD .non))) τ S else .ex Cn (valT τ) S := by
  unfold dLcX
  rw [hd]
  show (if _ ∧ _ then _ else _) = _
  rw [if_pos ⟨by rw [List.all_cons, hpl] <;> rfl, hk⟩]
  show ((lcLoopX (.one i) [i] tt (dKeep te) ws [] (τ.set i .no) S).exT τ).bind _ = _
  obtain ⟨τ', e⟩ := lcX_fm1 hi hk ws (acc := []) h1 h2 (by simpa using h3)
  rw [e]
  by_cases c : ((ws.filter p).all fun w => (f w).isSome) = true
  · rw [if_pos c, if_pos c]
    show R.ok _ (mend τ (τ.set i .no) [i]) S = _
    have : mend τ (τ.set i .no) [i] = τ := by
      unfold mend mend
      exact set_back hi
    rw [this, List.nil_append]
  · rw [if_neg c, if_neg c] <;> rfl
end VM

set_option Elab.async false
set_option linter.all false
set_option maxRecDepth 10000
/-! LMtext: texts parted by a sign, and put together. -/
namespace VM
open PySem
open Enc (enc)
def glueL (c : Nat) : List (List Nat) → List Nat
  | [] => []
  | [x] => x
  | x :: y :: r => x ++ c :: glueL c (y :: r)
def splitL (c : Nat) : List Nat → List (List Nat)
  | [] => [[]]
  | a :: r => if a = c then [] :: splitL c r else (match splitL c r with
    | [] => [[a]]
    | p :: ps => (a :: p) :: ps)
theorem splitL_ne (c : Nat) : ∀ l, splitL c l ≠ []
  | [] => by simp [splitL]
  | a :: r => by
    unfold splitL
    split
    · simp
    · split <;> simp
theorem splitL_free (c : Nat) : ∀ l, ∀ p ∈ splitL c l, c ∉ p
  | [], p, h => by
    simp [splitL] at h
    subst h
    simp
  | a :: r, p, h => by
    have ih := splitL_free c r
    unfold splitL at h
    split at h
    · rcases List.mem_cons.mp h with rfl | h
      · simp
      · exact ih p h
    · rename_i ne
      split at h
      · rename_i e; exact (splitL_ne c r e).elim
      · rename_i q qs e
        rcases List.mem_cons.mp h with rfl | h
        · intro z
          rcases List.mem_cons.mp z with z | z
          · exact ne z.symm
          · exact ih q (by rw [e]; exact List.mem_cons_self) z
        · exact ih p (by rw [e]; exact List.mem_cons_of_mem _ h)
theorem glueL_cons (c a : Nat) (p : List Nat) : ∀ r, glueL c ((a :: p) :: r) = a :: glueL c (p :: r)
  | [] => rfl
  | _ :: _ => rfl
theorem glue_split (c : Nat) : ∀ l, glueL c (splitL c l) = l
  | [] => rfl
  | a :: r => by
    have ih := glue_split c r
    unfold splitL
    split
    · rename_i e
      cases h : splitL c r with
      | nil => exact (splitL_ne c r h).elim
      | cons p ps =>
        rw [h] at ih
        show [] ++ c :: glueL c (p :: ps) = a :: r
        rw [ih, e] <;> rfl
    · cases h : splitL c r with
      | nil => exact (splitL_ne c r h).elim
      | cons p ps =>
        rw [h] at ih
        show glueL c ((a :: p) :: ps) = a :: r
        rw [glueL_cons, ih]
theorem split_app (c : Nat) (t : List Nat) : ∀ p : List Nat, c ∉ p → splitL c (p ++ c :: t) = p :: splitL c t
  | [], _ => by
    show (if c = c then _ else _) = _
    rw [if_pos rfl]
  | a :: p, h => by
    have h1 : a ≠ c := fun z => h (by rw [z]; exact List.mem_cons_self)
    have ih := split_app c t p fun z => h (List.mem_cons_of_mem _ z)
    have e : splitL c (a :: (p ++ c :: t)) = if a = c then [] :: splitL c (p ++ c :: t) else (match splitL c (p ++ c :: t) with
      | [] => [[a]]
      | p :: ps => (a :: p) :: ps) := rfl
    rw [List.cons_append, e, if_neg h1, ih]
theorem split_one (c : Nat) : ∀ p : List Nat, c ∉ p → splitL c p = [p]
  | [], _ => rfl
  | a :: p, h => by
    have h1 : a ≠ c := fun z => h (by rw [z]; exact List.mem_cons_self)
    have ih := split_one c p fun z => h (List.mem_cons_of_mem _ z)
    show (if a = c then _ else _) = _
    rw [if_neg h1, ih]
theorem split_glue (c : Nat) : ∀ ps : List (List Nat), ps ≠ [] → (∀ p ∈ ps, c ∉ p) → splitL c (glueL c ps) = ps
  | [], h, _ => (h rfl).elim
  | [p], _, h => split_one c p (h p List.mem_cons_self)
  | p :: q :: r, _, h => by
    show splitL c (p ++ c :: glueL c (q :: r)) = _
    rw [split_app c _ p (h p List.mem_cons_self), split_glue c (q :: r) (by simp) fun x hx => h x (List.mem_cons_of_mem _ hx)]
def sgn (p : List Nat) : Str := ⟨p.toArray⟩
theorem sgn_list (x : Str) : sgn x.cps.toList = x := by
  cases x
  show Str.mk _ = _
  rw [Array.toArray_toList]
theorem list_sgn (p : List Nat) : (sgn p).cps.toList = p := by show p.toArray.toList = p; simp
theorem join_glue (c : Nat) : ∀ ps : List Str, (Str.join ⟨#[c]⟩ ps).cps.toList = glueL c (ps.map fun p => p.cps.toList)
  | [] => rfl
  | [p] => rfl
  | p :: q :: r => by
    have ih := join_glue c (q :: r)
    have e : (Str.join ⟨#[c]⟩ (p :: q :: r)) = p ++ ⟨#[c]⟩ ++ Str.join ⟨#[c]⟩ (q :: r) := rfl
    rw [e]
    show ((p.cps ++ #[c]) ++ (Str.join ⟨#[c]⟩ (q :: r)).cps).toList = p.cps.toList ++ c :: glueL c ((q :: r).map fun p => p.cps.toList)
    rw [Array.toList_append, Array.toList_append, ih]
    simp
theorem txt_split_ne (x y : Str) : Txt.split x y ≠ [] := by
  unfold Txt.split
  split
  · simp
  · split
    · simp
    · unfold Builtin.Str.partsBetween
      cases h : Builtin.Str.occurrences x y 0 x.length (x.length + 1) <;> simp
/-- the parts of a text, by a plain recursion -/
theorem split_eq (x : Str) (c : Nat) : Txt.split x ⟨#[c]⟩ = (splitL c x.cps.toList).map sgn := by
  have h1 := StrLaws.join_split x ⟨#[c]⟩
  have h2 := StrLaws.split_free x c
  have h3 := txt_split_ne x ⟨#[c]⟩
  generalize Txt.split x ⟨#[c]⟩ = ps at h1 h2 h3
  rw [← h1, join_glue, split_glue c _ (by simpa using h3) (fun p hp => by
    obtain ⟨q, hq, rfl⟩ := List.mem_map.mp hp
    exact h2 q hq), List.map_map]
  exact (List.map_id ps).symm.trans (List.map_congr_left fun p _ => (sgn_list p).symm)
/-- a text of parts, parted again -/
theorem split_join {ps : List Str} {c : Nat} (h : ps ≠ []) (f : ∀ p ∈ ps, c ∉ p.cps.toList) : Txt.split (Str.join ⟨#[c]⟩ ps) ⟨#[c]⟩ = ps := by
  rw [split_eq, join_glue, split_glue c _ (by simpa using h) (fun p hp => by
    obtain ⟨q, hq, rfl⟩ := List.mem_map.mp hp
    exact f q hq), List.map_map]
  exact (List.map_congr_left fun p _ => sgn_list p).trans (List.map_id ps)
theorem splitL_sub (c : Nat) : ∀ l, ∀ p ∈ splitL c l, ∀ a ∈ p, a ∈ l
  | [], p, h, a, ha => by
    simp [splitL] at h
    subst h
    cases ha
  | b :: r, p, h, a, ha => by
    have ih := splitL_sub c r
    unfold splitL at h
    split at h
    · rcases List.mem_cons.mp h with rfl | h
      · cases ha
      · exact List.mem_cons_of_mem _ (ih p h a ha)
    · split at h
      · rename_i e; exact (splitL_ne c r e).elim
      · rename_i q qs e
        rcases List.mem_cons.mp h with rfl | h
        · rcases List.mem_cons.mp ha with rfl | ha
          · exact List.mem_cons_self
          · exact List.mem_cons_of_mem _ (ih q (by rw [e]; exact List.mem_cons_self) a ha)
        · exact List.mem_cons_of_mem _ (ih p (by rw [e]; exact List.mem_cons_of_mem _ h) a ha)
theorem splitL_len (c : Nat) : ∀ l, ∀ p ∈ splitL c l, p.length ≤ l.length
  | [], p, h => by
    simp [splitL] at h
    subst h
    simp
  | b :: r, p, h => by
    have ih := splitL_len c r
    unfold splitL at h
    split at h
    · rcases List.mem_cons.mp h with rfl | h
      · simp
      · exact Nat.le_succ_of_le (ih p h)
    · split at h
      · rename_i e; exact (splitL_ne c r e).elim
      · rename_i q qs e
        rcases List.mem_cons.mp h with rfl | h
        · have := ih q (by rw [e]; exact List.mem_cons_self)
          simp; omega
        · exact Nat.le_succ_of_le (ih p (by rw [e]; exact List.mem_cons_of_mem _ h))
theorem splitL_many (c : Nat) : ∀ l, (splitL c l).length ≤ l.length + 1
  | [] => by simp [splitL]
  | b :: r => by
    have ih := splitL_many c r
    unfold splitL
    split
    · simp; omega
    · split
      · simp
      · rename_i q qs e
        rw [e] at ih
        simp at ih ⊢
        omega
def okX (x : Str) : Prop := x.length ≤ 100000 ∧ PyData.strOk x = true
theorem okX_sgn {x : Str} (h : okX x) {p : List Nat} (hl : p.length ≤ x.length) (hs : ∀ a ∈ p, a ∈ x.cps.toList) : okX (sgn p) := by
  refine ⟨by show p.toArray.size ≤ _; simp; exact Nat.le_trans hl h.1, ?_⟩
  have q := h.2
  unfold PyData.strOk at q ⊢
  rw [Array.all_eq_true_iff_forall_mem] at q ⊢
  intro a ha
  exact q a (Array.mem_toList_iff.mp (hs a (by simpa [sgn] using ha)))
/-- split, by values -/
theorem pSplit_ok {x : Str} {c : Nat} (h : okX x) : pSplit (.str x) [.str ⟨#[c]⟩] = some (.own (.lst (((splitL c x.cps.toList).map sgn).map .str))) := by
  have e : (Txt.split x ⟨#[c]⟩).all strC = true := by
    rw [split_eq, List.all_eq_true]
    intro y hy
    obtain ⟨p, hp, rfl⟩ := List.mem_map.mp hy
    have o := okX_sgn h (p := p) (by have := splitL_len c _ p hp; rwa [Array.length_toList] at this) (splitL_sub c _ p hp)
    unfold strC
    rw [o.2, decide_eq_true (show (sgn p).length ≤ strLine from Nat.le_trans o.1 (by decide))] <;> rfl
  show (if _ then _ else _) = _
  rw [if_pos ⟨rfl, by have := h.1; show x.length + 2 ≤ 1000000; omega, e⟩, split_eq]
end VM

set_option Elab.async false
set_option linter.all false
set_option maxRecDepth 10000
/-! PL1: sorted sets of typed data. -/
namespace VM
open PySem PySem.Spec L2
open PyProof.Rows hiding St
open PySem.W (alike alikeAll dataLt keyToks)
open Enc (enc)
/-- data that a set may hold, in an order -/
class Key (α : Type) extends Enc α where
  dD : α → PyData
  hd : ∀ a, (Enc.enc a).toD = some (dD a)
  al : ∀ a b, alike (dD a) (dD b) = true
  dp : ∀ a, (dD a).depth ≤ 7
  ky : (∀ a, isTupK (dD a) = true) ∨ ∀ a, (kyD (dD a)).isSome = true
  so : ∀ l : List α, sortableB (l.map dD) = true
  dinj : ∀ a b, dD a = dD b → a = b
open Key (dD)
instance : Key Str where
  dD := .str
  hd _ := by simp [enc, W.toD]
  al _ _ := by simp [alike]
  dp _ := by simp [PyData.depth]
  ky := .inr fun _ => rfl
  so l := by unfold sortableB; rw [Bool.or_eq_true]; exact .inr (by simp [List.all_map, Function.comp_def])
  dinj a b h := by injection h
def dDeed (p : Str × Str) : PyData := .tuple [.str p.1, .str p.2]
instance : Key (Str × Str) where
  dD := dDeed
  hd p := by simp [enc, W.toD, W.toDs, dDeed]
  al _ _ := by simp [alike, alikeAll, dDeed]
  dp _ := by simp [PyData.depth, PyData.depthAll, dDeed]
  ky := .inl fun p => by simp [isTupK, dDeed, nkD, nkDs, NestedKey.depth, NestedKey.depthAll]
  so l := by unfold sortableB; rw [Bool.or_eq_true]; exact .inl (by simp [List.all_map, Function.comp_def, dDeed])
  dinj a b h := by
    unfold dDeed at h
    injection h with h
    injection h with h1 h2
    injection h1 with h1
    injection h2 with h2 _
    injection h2 with h2
    exact Prod.ext h1 h2
section
variable {α : Type} [Key α]
def ltK (a b : α) : Prop := dataLt (dD a) (dD b) = true
theorem ltK_irrefl (a : α) : ¬ ltK a a := fun h => by
  have := lex_irrefl (O := itemOrd) (keyToks (dD a))
  unfold ltK dataLt at h
  rw [this] at h
  cases h
theorem ltK_trans {a b c : α} (h : ltK a b) (g : ltK b c) : ltK a c := lex_trans (O := itemOrd) _ _ _ h g
theorem ltK_tot {a b : α} (h : ¬ ltK a b) (g : ¬ ltK b a) : a = b := Key.dinj _ _ (data_tot (Key.al a b) (by unfold ltK at h; simpa using h) (by unfold ltK at g; simpa using g))
def sortSet (l : List α) : List α := (bySort (onceD (l.map fun a => (a, dD a)))).map (·.1)
theorem toDs_key : ∀ l : List α, W.toDs (l.map enc) = some (l.map dD)
  | [] => by simp [W.toDs]
  | a :: l => by simp [W.toDs, Key.hd, toDs_key l]
theorem zip_key : ∀ l : List α, (l.map enc).zip (l.map dD) = l.map fun a => ((enc a : W), dD a)
  | [] => rfl
  | a :: l => by rw [List.map_cons, List.map_cons, List.zip_cons_cons, zip_key l] <;> rfl
theorem onceD_map {β γ : Type} (f : β → γ) : ∀ l : List (β × PyData), onceD (l.map fun p => (f p.1, p.2)) = (onceD l).map fun p => (f p.1, p.2)
  | [] => rfl
  | p :: l => by
    rw [List.map_cons]
    unfold onceD
    rw [onceD_map f l, List.map_map]
    have e : ((fun q : γ × PyData => nkD q.2) ∘ fun p : β × PyData => (f p.1, p.2)) = fun q : β × PyData => nkD q.2 := rfl
    rw [e]
    split <;> rfl
theorem setW_key (l : List α) : setW (l.map enc) (l.map dD) = (sortSet l).map enc := by
  unfold setW sortSet
  rw [zip_key]
  have e : (l.map fun a => ((enc a : W), dD a)) = (l.map fun a => (a, dD a)).map fun p => ((enc p.1 : W), p.2) := by rw [List.map_map]; rfl
  rw [e, onceD_map (fun a : α => (enc a : W)), ← bySort_map (fun a : α => (enc a : W)), List.map_map, List.map_map]
  rfl
theorem keyB_key (l : List α) : setKeyB (l.map dD) = true := by
  unfold setKeyB
  rw [Bool.or_eq_true]
  rcases (Key.ky : (∀ a : α, _) ∨ _) with h | h
  · exact .inl (by rw [List.all_map, List.all_eq_true]; exact fun a _ => h a)
  · exact .inr (by rw [List.all_map, List.all_eq_true]; exact fun a _ => h a)
theorem sortC_key (l : List α) : sortC (l.map dD) = true := by
  unfold sortC
  rw [Bool.and_eq_true, Bool.and_eq_true]
  refine ⟨⟨?_, Key.so l⟩, ?_⟩
  · rw [List.all_map, List.all_eq_true]
    intro a _
    show ((l.map dD).all fun e => alike (dD a) e) = true
    rw [List.all_map, List.all_eq_true]
    exact fun b _ => Key.al a b
  · rw [List.all_map, List.all_eq_true]
    exact fun a _ => decide_eq_true (Nat.le_trans (Key.dp a) (by decide))
theorem fSortSet_lst {l : List α} (h : l.length < 64) : fSortSet (.lst (l.map enc)) = some (.own (.lst ((sortSet l).map enc))) := by
  show (W.toDs (l.map enc)).bind _ = _
  rw [toDs_key]
  show (if _ = true then _ else _) = _
  rw [if_pos (by rw [keyB_key, sortC_key, List.length_map, decide_eq_true h] <;> rfl), setW_key]
theorem fSortSet_tup {l : List α} (h : l.length < 64) : fSortSet (.tup (l.map enc)) = some (.own (.lst ((sortSet l).map enc))) := by
  show (W.toDs (l.map enc)).bind _ = _
  rw [toDs_key]
  show (if _ = true then _ else _) = _
  rw [if_pos (by rw [keyB_key, sortC_key, List.length_map, decide_eq_true h] <;> rfl), setW_key]
theorem once_key (l : List α) : Once (l.map fun a => (a, dD a)) (onceD (l.map fun a => (a, dD a))) := once_onceD (by
  rw [List.map_map]
  exact keyB_key l)
theorem pair_key {l : List α} {p : α × PyData} (h : p ∈ onceD (l.map fun a => (a, dD a))) : p.2 = dD p.1 ∧ p.1 ∈ l := by
  obtain ⟨a, ha, rfl⟩ := List.mem_map.mp (onceD_sub h)
  exact ⟨rfl, ha⟩
theorem mem_sortSet {l : List α} {a : α} : a ∈ sortSet l ↔ a ∈ l := by
  unfold sortSet
  constructor
  · intro h
    obtain ⟨p, hp, rfl⟩ := List.mem_map.mp h
    exact (pair_key ((bySort_perm _).mem_iff.mp hp)).2
  · intro h
    obtain ⟨q, hq, e⟩ := List.mem_map.mp ((once_key l).all (a, dD a) (List.mem_map.mpr ⟨a, h, rfl⟩))
    have e2 := (pair_key hq).1
    have : q.1 = a := Key.dinj _ _ (by rw [← e2]; exact e)
    exact List.mem_map.mpr ⟨q, (bySort_perm _).mem_iff.mpr hq, this⟩
theorem sortSet_sorted (l : List α) : (sortSet l).Pairwise ltK := by
  unfold sortSet
  rw [List.pairwise_map]
  have nd : (bySort (onceD (l.map fun a => (a, dD a)))).Pairwise fun p q => p.2 ≠ q.2 := by
    have := (once_key l).nd
    have := ((bySort_perm (onceD (l.map fun a => (a, dD a)))).map (·.2)).nodup_iff.mpr this
    exact List.pairwise_map.mp this
  refine ((bySort_srt (onceD (l.map fun a => (a, dD a)))).and nd).imp_of_mem fun {p q} hp hq ⟨h1, h2⟩ => ?_
  have e1 := (pair_key ((bySort_perm _).mem_iff.mp hp)).1
  have e2 := (pair_key ((bySort_perm _).mem_iff.mp hq)).1
  rw [e1, e2] at h1 h2
  show dataLt (dD p.1) (dD q.1) = true
  cases h : dataLt (dD p.1) (dD q.1) with
  | true => rfl
  | false => exact (h2 (data_tot (Key.al _ _) h h1)).elim
/-- a rising list is known by what stands in it -/
theorem rising_one : ∀ {l m : List α}, l.Pairwise ltK → m.Pairwise ltK → (∀ a, a ∈ l ↔ a ∈ m) → l = m
  | [], [], _, _, _ => rfl
  | [], b :: m, _, _, h => by have := (h b).mpr List.mem_cons_self; cases this
  | a :: l, [], _, _, h => by have := (h a).mp List.mem_cons_self; cases this
  | a :: l, b :: m, hl, hm, h => by
    have h1 := List.pairwise_cons.mp hl
    have h2 := List.pairwise_cons.mp hm
    have e : a = b := by
      rcases List.mem_cons.mp ((h a).mp List.mem_cons_self) with q | q
      · exact q
      · rcases List.mem_cons.mp ((h b).mpr List.mem_cons_self) with r | r
        · exact r.symm
        · exact (ltK_irrefl a (ltK_trans (h1.1 b r) (h2.1 a q))).elim
    subst e
    rw [rising_one h1.2 h2.2 fun x => ⟨fun hx => ?_, fun hx => ?_⟩]
    · rcases List.mem_cons.mp ((h x).mp (List.mem_cons_of_mem _ hx)) with q | q
      · subst q; exact (ltK_irrefl x (h1.1 x hx)).elim
      · exact q
    · rcases List.mem_cons.mp ((h x).mpr (List.mem_cons_of_mem _ hx)) with q | q
      · subst q; exact (ltK_irrefl x (h2.1 x hx)).elim
      · exact q
theorem sortSet_mem {l m : List α} (h : ∀ a, a ∈ l ↔ a ∈ m) : sortSet l = sortSet m := rising_one (sortSet_sorted l) (sortSet_sorted m) fun a => by rw [mem_sortSet, mem_sortSet]; exact h a
theorem sortSet_id {l : List α} (h : l.Pairwise ltK) : sortSet l = l := rising_one (sortSet_sorted l) h fun a => mem_sortSet
theorem sortSet_len (l : List α) : (sortSet l).length ≤ l.length := by
  unfold sortSet
  rw [List.length_map, (bySort_perm _).length_eq]
  have : ∀ l : List (α × PyData), (onceD l).length ≤ l.length := fun l => by
    induction l with
    | nil => exact Nat.le_refl _
    | cons q l ih =>
      unfold onceD
      split
      · exact Nat.le_succ_of_le ih
      · exact Nat.succ_le_succ ih
  exact Nat.le_trans (this _) (by rw [List.length_map]; exact Nat.le_refl _)
theorem fLenSet_tup {l : List α} (h : l.length < 64) : fLenSet (.tup (l.map enc)) = some (.val (.int (sortSet l).length)) := by
  show (W.toDs (l.map enc)).bind _ = _
  rw [toDs_key]
  show (if _ = true then _ else _) = _
  rw [if_pos (by rw [keyB_key, List.length_map, decide_eq_true h] <;> rfl)]
  have e := congrArg List.length (setW_key l)
  unfold setW at e
  rw [List.length_map, List.length_map, (bySort_perm _).length_eq] at e
  rw [e] <;> rfl
/-- sorted of a list, things once each -/
def sortK (l : List α) : List α := (bySort (l.map fun a => (a, dD a))).map (·.1)
theorem fSortD_key (l : List α) : fSortD (.lst (l.map enc)) = some (.own (.lst ((sortK l).map enc))) := by
  show (W.toDs (l.map enc)).bind _ = _
  rw [toDs_key]
  show (if _ = true then _ else _) = _
  rw [if_pos (sortC_key l)]
  unfold sortW sortK
  rw [zip_key]
  have e : (l.map fun a => ((enc a : W), dD a)) = (l.map fun a => (a, dD a)).map fun p => ((enc p.1 : W), p.2) := by rw [List.map_map]; rfl
  rw [e, ← bySort_map (fun a : α => (enc a : W)), List.map_map, List.map_map]
  rfl
theorem sortK_perm (l : List α) : (sortK l).Perm l := by
  unfold sortK
  have := (bySort_perm (l.map fun a => (a, dD a))).map (·.1)
  rw [List.map_map] at this
  have e : ((fun p : α × PyData => p.1) ∘ fun a => (a, dD a)) = id := rfl
  rw [e, List.map_id] at this
  exact this
end
end VM

set_option Elab.async false
set_option linter.all false
set_option maxRecDepth 10000
set_option maxHeartbeats 1000000
/-! LMdays: names, deeds. -/
namespace VM
open PySem
open Enc (enc)
/-- values of built-in classes -/
def W.plainK : W → Bool
  | .obj .. => false
  | .exc _ => false
  | .hnd _ => false
  | _ => true
def keptL : List Str := ["kept", "broken", "must", "shun", "may", "when", "both", "next", "again", "till", "fee", "share", "each", "in", "for", "ever", "then", "else"]
def smallX (x : Str) : Bool := !(Builtin.Str.occurrences "abcdefghijklmnopqrstuvwxyz" x 0 (Str.length "abcdefghijklmnopqrstuvwxyz") 1).isEmpty
def nameS (x : Str) : Bool := (decide (1 ≤ (x.length : Int)) && decide ((x.length : Int) ≤ 8)) && ((x.cps.toList.all fun c => smallX ⟨#[c]⟩) && !decide (x ∈ keptL))
def nameW : W → Bool
  | .str x => nameS x
  | _ => false
def deedW : W → Bool
  | .tup [a, b] => nameW a && nameW b
  | _ => false
theorem pSplit_kept : pSplit (.str "kept broken must shun may when both next again till fee share each in for ever then else") [.str " "] = some (.own (.lst (keptL.map .str))) := by kernel_rfl
section
variable [Sys] [IsB] {k : Nat} {S : Store}
theorem kept_words_ok [R_kept_words] : CC (k + 1) "kept_words" [] S = .ok (.own (.lst (keptL.map .str))) S := by
  rw [R_kept_words.run_kept_words]
  simp [b_kept_words, dPeek_eq, pSplit_kept]
theorem notIn_kept {x : Str} : opCmp .NotIn (.str x) (.lst (keptL.map .str)) = some (!decide (x ∈ keptL)) := notIn_lst (α := Str) (by decide)
theorem is_name_ok [R_kept_words] [R_is_name] {w : W} (hw : w.plainK = true) : CC (k + 2) "is_name" [w] S = .ok (.val (.bl (nameW w))) S := by
  rw [R_is_name.run_is_name]
  cases w with
  | str x =>
    by_cases h1 : (1 : Int) ≤ (x.length : Int)
    · by_cases h2 : (x.length : Int) ≤ 8
      · have hc := dLc_m1 (di := iSeqP (dPeek 0)) (i := 1) (te := dCmp (opCmp .In) (dPeek 1) (dConst (.str "abcdefghijklmnopqrstuvwxyz"))) (fun w => W.bl (match w with | .str y => smallX y | _ => false)) (ws := signs x) (x := .val (.str x)) (τ := [.val (.str x), .no]) (S := S) (by simp) rfl rfl (by simp [dPeek_eq]; rfl) (fun w hw => by
          unfold signs at hw
          obtain ⟨c, _, rfl⟩ := List.mem_map.mp hw
          simp [dPeek_eq, isIn_str, smallX]) (by
          unfold signs
          rw [List.length_map, Array.length_toList]
          exact line_le (by have : x.cps.size = x.length := rfl; omega))
        have e : (signs x).map (fun w => W.bl (match w with | .str y => smallX y | _ => false)) = x.cps.toList.map fun c => W.bl (smallX ⟨#[c]⟩) := by
          unfold signs
          rw [List.map_map]; rfl
        rw [e] at hc
        have hk := kept_words_ok (k := k) (S := S)
        cases hs : (x.cps.toList.all fun c => smallX ⟨#[c]⟩)
        · simp [b_is_name, dPeek_eq, h1, h2, hc, all_bls, hs, nameW, nameS]
        · simp [b_is_name, dPeek_eq, h1, h2, hc, all_bls, hs, nameW, nameS, hk, notIn_kept]
      · simp [b_is_name, dPeek_eq, h1, h2, nameW, nameS]
    · simp [b_is_name, dPeek_eq, h1, nameW, nameS]
  | obj _ _ _ => cases hw
  | exc _ => cases hw
  | hnd _ => cases hw
  | _ => simp [b_is_name, dPeek_eq, nameW]
theorem eq_int2 {a b : Int} : opCmp .Eq (.int a) (.int b) = some (a == b) := opEq_int
theorem is_deed_ok [R_kept_words] [R_is_name] [R_is_deed] {w : W} (hw : w.plainK = true) (hi : ∀ xs, w = .tup xs → ∀ x ∈ xs, x.plainK = true) : CC (k + 3) "is_deed" [w] S = .ok (.val (.bl (deedW w))) S := by
  rw [R_is_deed.run_is_deed]
  cases w with
  | tup xs =>
    match xs, hi with
    | [], _ => simp [b_is_deed, dPeek_eq, deedW]
    | [a], _ => simp [b_is_deed, dPeek_eq, deedW]
    | [a, b], hi =>
      have ha := is_name_ok (k := k) (S := S) (hi _ rfl a (by simp))
      have hb := is_name_ok (k := k) (S := S) (hi _ rfl b (by simp))
      have i0 : fIx (.tup [a, b]) (.int 0) = some (.val a) := rfl
      have i1 : fIx (.tup [a, b]) (.int 1) = some (.val b) := rfl
      cases hn : nameW a
      · simp [b_is_deed, dPeek_eq, deedW, ha, hb, i0, i1, hn]
      · simp [b_is_deed, dPeek_eq, deedW, ha, hb, i0, i1, hn]
    | a :: b :: c :: r, _ =>
      have : ((r.length : Int) + 1 + 1 + 1 == 2) = false := by
        rw [beq_eq_false_iff_ne]; omega
      simp [b_is_deed, dPeek_eq, deedW, this]
  | obj _ _ _ => cases hw
  | exc _ => cases hw
  | hnd _ => cases hw
  | _ => simp [b_is_deed, dPeek_eq, deedW]
/-! days -/
def ltD (a b : W) : Bool := match a.toD, b.toD with
  | some d, some e => PySem.W.dataLt d e
  | _, _ => false
theorem deed_is {w : W} (h : deedW w = true) : ∃ a b : Str, w = .tup [.str a, .str b] := by
  cases w with
  | tup xs =>
    match xs, h with
    | [a, b], h =>
      have h : (nameW a && nameW b) = true := h
      rw [Bool.and_eq_true] at h
      cases a with
      | str a =>
        cases b with
        | str b => exact ⟨a, b, rfl⟩
        | _ => exact absurd h.2 (by simp [nameW])
      | _ => exact absurd h.1 (by simp [nameW])
  | _ => simp [deedW] at h
theorem deed_isH {w : W} (h : deedW w = true) : w.isH = false := by
  obtain ⟨a, b, rfl⟩ := deed_is h
  rfl
theorem toD_deed {a b : Str} : (W.tup [.str a, .str b]).toD = some (.tuple [.str a, .str b]) := by simp [W.toD, W.toDs]
theorem alike_deed {a b c d : Str} : PySem.W.alike (.tuple [.str a, .str b]) (.tuple [.str c, .str d]) = true := by simp [PySem.W.alike, PySem.W.alikeAll]
theorem dep_deed {a b : Str} : (PyData.tuple [.str a, .str b]).depth = 1 := by simp [PyData.depth, PyData.depthAll]
theorem deed_le {x y : W} (hx : deedW x = true) (hy : deedW y = true) : opCmp .LtE x y = some (!ltD y x) := by
  obtain ⟨a, b, rfl⟩ := deed_is hx
  obtain ⟨c, d, rfl⟩ := deed_is hy
  show opOrd (fun a b => decide (a ≤ b)) (fun d e => !PySem.W.dataLt e d) (.tup [.str a, .str b]) (.tup [.str c, .str d]) = _
  unfold opOrd ltD
  rw [toD_deed, toD_deed]
  show (if datC _ _ = true then _ else _) = _
  rw [if_pos (by unfold datC; rw [alike_deed, dep_deed]; rfl)]
def dayB : Option W → List W → Bool
  | _, [] => true
  | l, x :: r => deedW x && ((match l with
    | none => true
    | some l => ltD l x) && dayB (some x) r)
def dayW : W → Bool
  | .tup xs => decide ((xs.length : Int) ≤ 8) && dayB none xs
  | _ => false
/-- plain, and what stands in it too -/
def W.deepK (w : W) : Prop := w.plainK = true ∧ ∀ xs, w = .tup xs → ∀ x ∈ xs, x.plainK = true
theorem day_loop [R_kept_words] [R_is_name] [R_is_deed] : ∀ (rest pre : List W) (s : Sl), (∀ x ∈ rest, x.deepK) → (∀ l, pre.getLast? = some l → deedW l = true) →
    (dayB pre.getLast? rest = true → ∃ s', dLoop (gTg (.one 1)) (l_is_day_0 (CC (k + 3))) ((List.range' pre.length rest.length).map fun (i : Nat) => W.int i) [.val (.tup (pre ++ rest)), s] S = .nx [.val (.tup (pre ++ rest)), s'] S) ∧
    (dayB pre.getLast? rest = false → ∃ τ', dLoop (gTg (.one 1)) (l_is_day_0 (CC (k + 3))) ((List.range' pre.length rest.length).map fun (i : Nat) => W.int i) [.val (.tup (pre ++ rest)), s] S = .rt (.val (.bl false)) τ' S)
  | [], pre, s, _, _ => by
    refine ⟨fun _ => ⟨s, by simp⟩, fun h => by simp [dayB] at h⟩
  | x :: r, pre, s, hx, hl => by
    have ix : fIx (.tup (pre ++ x :: r)) (.int (pre.length : Nat)) = some (.val x) := fIx_tup (by simp)
    have dx := is_deed_ok (k := k) (S := S) (hx x List.mem_cons_self).1 (hx x List.mem_cons_self).2
    have ls : (pre ++ [x]).getLast? = some x := by simp
    have app : pre ++ x :: r = (pre ++ [x]) ++ r := by simp
    have ih := fun (h : deedW x = true) => day_loop r (pre ++ [x]) (.val (.int (pre.length : Nat))) (fun y hy => hx y (List.mem_cons_of_mem _ hy)) (fun l e => by rw [ls] at e; cases e; exact h)
    rw [ls, ← app, List.length_append] at ih
    have rng : (List.range' pre.length (x :: r).length).map (fun (i : Nat) => W.int i) = W.int (pre.length : Nat) :: (List.range' (pre.length + [x].length) r.length).map fun (i : Nat) => W.int i := by
      rw [List.length_cons, List.range'_succ, List.map_cons] <;> rfl
    rw [rng]
    cases hd : deedW x
    · refine ⟨fun h => by simp [dayB, hd] at h, fun _ => ⟨[.val (.tup (pre ++ x :: r)), .val (.int (pre.length : Nat))], ?_⟩⟩
      unfold dLoop
      simp [l_is_day_0, dPeek_eq, ix, dx, hd]
    · have ih := ih hd
      rcases List.eq_nil_or_concat pre with e | ⟨p, l, e⟩
      · subst e
        have go : dLoop (gTg (.one 1)) (l_is_day_0 (CC (k + 3))) (W.int (([] : List W).length : Nat) :: (List.range' (([] : List W).length + [x].length) r.length).map fun (i : Nat) => W.int i) [.val (.tup ([] ++ x :: r)), s] S =
            dLoop (gTg (.one 1)) (l_is_day_0 (CC (k + 3))) ((List.range' (([] : List W).length + [x].length) r.length).map fun (i : Nat) => W.int i) [.val (.tup ([] ++ x :: r)), .val (.int (([] : List W).length : Nat))] S := by
          conv => lhs; unfold dLoop
          simp at ix dx ⊢
          simp [l_is_day_0, dPeek_eq, ix, dx, hd]
        rw [go]
        refine ⟨fun h => ih.1 ?_, fun h => ih.2 ?_⟩
        · simpa [dayB, hd] using h
        · simpa [dayB, hd] using h
      · rw [List.concat_eq_append] at e
        have e2 : pre.getLast? = some l := by rw [e]; simp
        have ix2 : fIx (.tup (pre ++ x :: r)) (.int ((pre.length : Int) - 1)) = some (.val l) := by
          have : ((pre.length : Int) - 1) = ((p.length : Nat) : Int) := by rw [e]; simp
          rw [this]
          exact fIx_tup (by rw [e]; simp)
        have le := deed_le hd (hl l e2)
        have pos2 : 0 < pre.length := by rw [e]; simp
        have pos : decide ((0 : Int) < (pre.length : Int)) = true := decide_eq_true (by rw [e]; simp)
        rw [e2]
        cases hlt : ltD l x
        · refine ⟨fun h => by simp [dayB, hd, hlt] at h, fun _ => ⟨[.val (.tup (pre ++ x :: r)), .val (.int (pre.length : Nat))], ?_⟩⟩
          unfold dLoop
          simp [l_is_day_0, dPeek_eq, ix, dx, hd, ix2, le, pos, pos2, hlt, rdS_val (deed_isH hd), rdS_val (deed_isH (hl l e2))]
        · have go : dLoop (gTg (.one 1)) (l_is_day_0 (CC (k + 3))) (W.int (pre.length : Nat) :: (List.range' (pre.length + [x].length) r.length).map fun (i : Nat) => W.int i) [.val (.tup (pre ++ x :: r)), s] S =
              dLoop (gTg (.one 1)) (l_is_day_0 (CC (k + 3))) ((List.range' (pre.length + [x].length) r.length).map fun (i : Nat) => W.int i) [.val (.tup (pre ++ x :: r)), .val (.int (pre.length : Nat))] S := by
            conv => lhs; unfold dLoop
            simp [l_is_day_0, dPeek_eq, ix, dx, hd, ix2, le, pos, pos2, hlt, rdS_val (deed_isH hd), rdS_val (deed_isH (hl l e2))]
          rw [go]
          refine ⟨fun h => ih.1 ?_, fun h => ih.2 ?_⟩
          · simpa [dayB, hd, hlt] using h
          · simpa [dayB, hd, hlt] using h
theorem is_day_ok [R_kept_words] [R_is_name] [R_is_deed] [R_is_day] {w : W} (hw : w.plainK = true) (hi : ∀ xs, w = .tup xs → ∀ x ∈ xs, x.deepK) : CC (k + 4) "is_day" [w] S = .ok (.val (.bl (dayW w))) S := by
  rw [R_is_day.run_is_day]
  cases w with
  | tup xs =>
    by_cases h8 : (xs.length : Int) ≤ 8
    · have q := day_loop (k := k) (S := S) xs [] .no (hi xs rfl) (fun l e => by simp at e)
      rw [List.length_nil, ← upTo_nat, List.nil_append] at q
      have hr := rng1_nat (m := xs.length) (by omega)
      have h9 : decide ((8 : Int) < (xs.length : Int)) = false := decide_eq_false (by omega)
      cases hb : dayB none xs
      · obtain ⟨τ', e⟩ := q.2 hb
        simp [b_is_day, dPeek_eq, hr, h8, h9, e, dayW, hb]
      · obtain ⟨s', e⟩ := q.1 hb
        simp [b_is_day, dPeek_eq, hr, h8, h9, e, dayW, hb]
    · have h9 : decide ((8 : Int) < (xs.length : Int)) = true := decide_eq_true (by omega)
      simp [b_is_day, dPeek_eq, h8, h9, dayW]
  | obj _ _ _ => cases hw
  | exc _ => cases hw
  | hnd _ => cases hw
  | _ => simp [b_is_day, dPeek_eq, dayW]
end
end VM

set_option Elab.async false
set_option linter.all false
set_option maxRecDepth 10000
set_option maxHeartbeats 1000000
/-! LMdraw: what a law draws: numbers, names, deeds. -/
namespace VM
open PySem
open Enc (enc)
/-! ### places in lists -/
theorem ix_ints {ds : List Int} {j : Int} (h0 : 0 ≤ j) (h1 : j < (ds.length : Int)) : fIx (.lst (ds.map .int)) (.int j) = some (.val (.int (ds.getD j.toNat 0))) := by
  obtain ⟨i, rfl⟩ := Int.eq_ofNat_of_zero_le h0
  have hi : i < ds.length := by omega
  have := fIx_lst (xs := ds.map W.int) (i := i) (w := .int ds[i]) (by rw [List.getElem?_map, List.getElem?_eq_getElem hi] <;> rfl)
  rw [show ((i : Nat) : Int).toNat = i from rfl, List.getD_eq_getElem?_getD, List.getElem?_eq_getElem hi]
  exact this
theorem ix_ok {xs : List W} {j : Int} (h0 : 0 ≤ j) (h1 : j < (xs.length : Int)) : ∃ w ∈ xs, fIx (.lst xs) (.int j) = some (.val w) := by
  obtain ⟨i, rfl⟩ := Int.eq_ofNat_of_zero_le h0
  have hi : i < xs.length := by omega
  exact ⟨xs[i], List.getElem_mem hi, fIx_lst (List.getElem?_eq_getElem hi)⟩
theorem cut_from {xs : List W} {i : Nat} (h : i ≤ xs.length) : cutW xs (some (i : Int)) none = xs.drop i := by
  have n0 : ¬ ((i : Int) < 0) := by omega
  unfold cutW HT.sIx
  simp [n0, Nat.min_eq_left h]
  rw [List.take_of_length_le (by rw [List.length_drop]; omega)]
/-! ### draws -/
theorem m1 (a : Int) : 0 ≤ a % 2147483647 := Int.emod_nonneg a (by decide)
theorem m2 (a : Int) : a % 2147483647 < 2147483648 := by have := Int.emod_lt_of_pos a (show (0 : Int) < 2147483647 by decide); omega
theorem m3 (a : Int) : 0 ≤ a % 2147483629 := Int.emod_nonneg a (by decide)
theorem m4 (a : Int) : a % 2147483629 < 2147483648 := by have := Int.emod_lt_of_pos a (show (0 : Int) < 2147483629 by decide); omega
def mix (x : Int) : Int := (x * x + 16807 * x) % 2147483629
def Drawn (d : Int) : Prop := 0 ≤ d ∧ d < 2147483648
section
variable [Sys] [IsB] {k : Nat} {S : Store} {F : Str → CF}
theorem draw_step (ns ds : List Int) (m s5 s6 : Sl) (more i : Int) (hm : m.isPk = false) (h0 : 0 ≤ more) (h1 : more < 2147483647) (hi : 0 ≤ i) (hl : ds.length < seqLine) : ∃ (d more' : Int) (t5 t6 : Sl), Drawn d ∧ 0 ≤ more' ∧ more' < 2147483647 ∧
    l__law_draws_0 F [.val (.lst (ns.map .int)), m, .own (.lst (ds.map .int)), .val (.int more), .val (.int i), s5, s6] S = .nx [.val (.lst (ns.map .int)), m, .own (.lst ((ds ++ [d]).map .int)), .val (.int more'), .val (.int i), t5, t6] S := by
  have h1' : more < 2147483648 := by omega
  have happ : ∀ w : W, mApp (.lst (ds.map .int)) [.val w] = some (.non, .lst (ds.map .int ++ [w])) := fun w => by
    show (if (ds.map W.int).length < seqLine then _ else _) = _
    rw [if_pos (by simpa using hl)]
  by_cases hz : 0 < ns.length
  · have hz' : (0 : Int) < (ns.length : Int) := by omega
    obtain ⟨c, hc⟩ := ix_int (ns := ns) (i := i % (ns.length : Int)) (Int.emod_nonneg i (by omega)) (Int.emod_lt_of_pos i hz')
    refine ⟨mix (mix ((more * 48271 + c + i + 1) % 2147483647)), (more * 48271 + c + i + 1) % 2147483647, .val (.int c), .val (.int (mix ((more * 48271 + c + i + 1) % 2147483647))), ⟨m3 _, m4 _⟩, m1 _, Int.emod_lt_of_pos _ (by decide), ?_⟩
    simp [l__law_draws_0, mix, dPeek_eq, hz, hz', hc, opMul_l, h0, h1', m1, m2, m3, m4, dMut_eq, happ, hm]
  · have hz' : ¬ (0 : Int) < (ns.length : Int) := by omega
    refine ⟨mix (mix ((more * 48271 + 0 + i + 1) % 2147483647)), (more * 48271 + 0 + i + 1) % 2147483647, .val (.int 0), .val (.int (mix ((more * 48271 + 0 + i + 1) % 2147483647))), ⟨m3 _, m4 _⟩, m1 _, Int.emod_lt_of_pos _ (by decide), ?_⟩
    simp [l__law_draws_0, mix, dPeek_eq, hz, hz', opMul_l, h0, h1', m1, m2, m3, m4, dMut_eq, happ, hm]
theorem draws_loop (ns : List Int) (m : Sl) (hm : m.isPk = false) : ∀ (ws ds : List Int) (more : Int) (s4 s5 s6 : Sl), 0 ≤ more → more < 2147483647 → (∀ i ∈ ws, 0 ≤ i) → ds.length + ws.length ≤ seqLine → ∃ (ds' : List Int) (more' : Int) (t4 t5 t6 : Sl), ds'.length = ws.length ∧ (∀ d ∈ ds', Drawn d) ∧
    dLoop (gTg (.one 4)) (l__law_draws_0 F) (ws.map .int) [.val (.lst (ns.map .int)), m, .own (.lst (ds.map .int)), .val (.int more), s4, s5, s6] S = .nx [.val (.lst (ns.map .int)), m, .own (.lst ((ds ++ ds').map .int)), .val (.int more'), t4, t5, t6] S
  | [], ds, more, s4, s5, s6, _, _, _, _ => ⟨[], more, s4, s5, s6, rfl, (fun _ h => by cases h), by simp⟩
  | i :: ws, ds, more, s4, s5, s6, h0, h1, hi, hl => by
    obtain ⟨d, more', t5, t6, hd, g0, g1, e⟩ := draw_step (S := S) (F := F) ns ds m s5 s6 more i hm h0 h1 (hi i (List.mem_cons_self ..)) (by simp at hl; omega)
    obtain ⟨ds', more'', u4, u5, u6, hl', hd', e'⟩ := draws_loop ns m hm ws (ds ++ [d]) more' (.val (.int i)) t5 t6 g0 g1 (fun j hj => hi j (List.mem_cons_of_mem _ hj)) (by simp at hl ⊢; omega)
    refine ⟨d :: ds', more'', u4, u5, u6, by simp [hl'], fun x hx => ?_, ?_⟩
    · rcases List.mem_cons.mp hx with rfl | hx
      · exact hd
      · exact hd' x hx
    show (match l__law_draws_0 F [.val (.lst (ns.map .int)), m, .own (.lst (ds.map .int)), .val (.int more), .val (.int i), s5, s6] S with
      | .nx τ S => dLoop (gTg (.one 4)) (l__law_draws_0 F) (ws.map .int) τ S
      | .ct τ S => dLoop (gTg (.one 4)) (l__law_draws_0 F) (ws.map .int) τ S
      | .bk τ S => .nx τ S
      | o => o) = _
    rw [e]
    show dLoop (gTg (.one 4)) (l__law_draws_0 F) (ws.map .int) _ S = _
    rw [e', List.append_assoc] <;> rfl
theorem upTo_eq (n : Nat) : VM.upTo 0 n = ((List.range n).map fun (i : Nat) => ((0 : Int) + i)).map W.int := by
  unfold VM.upTo
  rw [List.map_map] <;> rfl
theorem draws_ok [R__law_draws] (ns : List Int) {m : Nat} (hm : m ≤ 1000) : ∃ ds : List Int, ds.length = m ∧ (∀ d ∈ ds, Drawn d) ∧ CC (k + 1) "_law_draws" [.lst (ns.map .int), .int m] S = .ok (.own (.lst (ds.map .int))) S := by
  rw [R__law_draws.run__law_draws]
  have hl0 : ([] : List Int).length + ((List.range m).map fun (i : Nat) => ((0 : Int) + i)).length ≤ seqLine := by
    rw [List.length_map, List.length_range, List.length_nil, Nat.zero_add]
    exact line_le (by omega)
  have hi0 : ∀ i ∈ ((List.range m).map fun (i : Nat) => ((0 : Int) + i)), 0 ≤ i := fun i hi => by
    obtain ⟨j, _, rfl⟩ := List.mem_map.mp hi
    omega
  obtain ⟨ds, more, t4, t5, t6, hl, hd, e⟩ := draws_loop (S := S) (F := CC k) ns (.val (.int m)) rfl ((List.range m).map fun (i : Nat) => ((0 : Int) + i)) [] 7 .no .no .no (by omega) (by omega) hi0 hl0
  rw [← upTo_eq, List.nil_append, List.map_nil] at e
  have hr := rng1_nat (m := m) (by omega)
  refine ⟨ds, by rw [hl, List.length_map, List.length_range], hd, ?_⟩
  simp [b__law_draws, dVar_eq, dRetV_eq, hr, e]
theorem drawn_get {ds : List Int} (h : ∀ d ∈ ds, Drawn d) (i : Nat) : Drawn (ds.getD i 0) := by
  rw [List.getD_eq_getElem?_getD]
  cases e : ds[i]? with
  | none => exact ⟨by decide, by decide⟩
  | some d => exact h d (List.mem_of_getElem? e)
/-! ### names -/
def SmS (x : Str) : Prop := (x.cps.toList.all fun c => smallX ⟨#[c]⟩) = true
theorem SmS.append {a b : Str} (ha : SmS a) (hb : SmS b) : SmS (a ++ b) := by
  unfold SmS at *
  rw [show (a ++ b).cps = a.cps ++ b.cps from rfl, Array.toList_append, List.all_append, ha, hb] <;> rfl
theorem SmS.rep {a : Str} (ha : SmS a) (n : Nat) : SmS (strRep a n) := by
  unfold SmS at *
  rw [rep_cps, List.all_eq_true] at *
  intro c hc
  obtain ⟨l, hl, hm⟩ := List.mem_flatten.mp hc
  rw [List.mem_replicate] at hl
  rw [hl.2] at hm
  exact ha c hm
def letB (j : Nat) : Bool := match fIx (.str "abcdefghijklmnopqrstuvwxyz") (.int j) with
  | some (.val (.str x)) => decide (x.length = 1) && x.cps.toList.all fun c => smallX ⟨#[c]⟩
  | _ => false
theorem letB_all : ((List.range 26).all letB) = true := by decide +kernel
theorem letter {j : Int} (h0 : 0 ≤ j) (h1 : j < 26) : ∃ x : Str, fIx (.str "abcdefghijklmnopqrstuvwxyz") (.int j) = some (.val (.str x)) ∧ x.length = 1 ∧ SmS x := by
  obtain ⟨i, rfl⟩ := Int.eq_ofNat_of_zero_le h0
  have := List.all_eq_true.mp letB_all i (List.mem_range.mpr (by omega))
  unfold letB at this
  split at this
  · rename_i x hx
    rw [Bool.and_eq_true, decide_eq_true_eq] at this
    exact ⟨x, hx, this.1, this.2⟩
  · cases this
theorem name_step (sh kk pl : Int) (name : Str) (t : Int) (s6 : Sl) (hsh : 0 ≤ sh) (hk : 0 ≤ kk) (ht : 0 ≤ t) (ht2 : t < 100) (hn : name.length ≤ 100) : ∃ x : Str, x.length = 1 ∧ SmS x ∧
    l__law_name_by_0 F [.val (.int sh), .val (.int kk), .val (.str "abcdefghijklmnopqrstuvwxyz"), .val (.int pl), .val (.str name), .val (.int t), s6] S = .nx [.val (.int sh), .val (.int kk), .val (.str "abcdefghijklmnopqrstuvwxyz"), .val (.int pl), .val (.str (name ++ x)), .val (.int t), s6] S := by
  have ad : ∀ x : Str, x.length = 1 → opAdd (.str name) (.str x) = some (.val (.str (name ++ x))) := fun x hx => if_pos (by rw [hx]; show _ ≤ 4194304; omega)
  by_cases c : t = pl
  · obtain ⟨x, h1, h2, h3⟩ := letter (j := (sh / 224 + kk) % 26) (Int.emod_nonneg _ (by decide)) (Int.emod_lt_of_pos _ (by decide))
    refine ⟨x, h2, h3, ?_⟩
    simp [l__law_name_by_0, dPeek_eq, c, h1, ad x h2]
  · obtain ⟨x, h1, h2, h3⟩ := letter (j := (sh / 7 + t * (1 + sh % 5)) % 26) (Int.emod_nonneg _ (by decide)) (Int.emod_lt_of_pos _ (by decide))
    refine ⟨x, h2, h3, ?_⟩
    have c2 : (t == pl) = false := by simpa using c
    simp [l__law_name_by_0, dPeek_eq, c2, h1, ad x h2, opMul_l, ht, show t < 2147483648 by omega]
theorem name_loop (sh kk pl : Int) (hsh : 0 ≤ sh) (hk : 0 ≤ kk) (s6 : Sl) : ∀ (ws : List Int) (name : Str) (s5 : Sl), (∀ t ∈ ws, 0 ≤ t ∧ t < 100) → name.length + ws.length ≤ 100 → SmS name → ∃ (nm : Str) (t5 : Sl), nm.length = name.length + ws.length ∧ SmS nm ∧
    dLoop (gTg (.one 5)) (l__law_name_by_0 F) (ws.map .int) [.val (.int sh), .val (.int kk), .val (.str "abcdefghijklmnopqrstuvwxyz"), .val (.int pl), .val (.str name), s5, s6] S = .nx [.val (.int sh), .val (.int kk), .val (.str "abcdefghijklmnopqrstuvwxyz"), .val (.int pl), .val (.str nm), t5, s6] S
  | [], name, s5, _, _, hs => ⟨name, s5, rfl, hs, by simp⟩
  | t :: ws, name, s5, ht, hl, hs => by
    obtain ⟨x, h1, h2, e⟩ := name_step (S := S) (F := F) sh kk pl name t s6 hsh hk (ht t List.mem_cons_self).1 (ht t List.mem_cons_self).2 (by simp at hl; omega)
    obtain ⟨nm, t5, h3, h4, e'⟩ := name_loop sh kk pl hsh hk s6 ws (name ++ x) (.val (.int t)) (fun u hu => ht u (List.mem_cons_of_mem _ hu)) (by rw [Str.length_append, h1]; simp at hl ⊢; omega) (hs.append h2)
    refine ⟨nm, t5, by rw [h3, Str.length_append, h1, List.length_cons]; omega, h4, ?_⟩
    rw [List.map_cons]
    conv => lhs; unfold dLoop
    simp only [gTg_one, gSet_val, List.set_cons_succ, List.set_cons_zero]
    rw [e]
    exact e'
theorem nameS_of {x : Str} (h1 : 1 ≤ x.length) (h2 : x.length ≤ 8) (h3 : SmS x) (h4 : x ∉ keptL) : nameS x = true := by
  unfold nameS
  rw [h3, decide_eq_true (show (1 : Int) ≤ (x.length : Int) by omega), decide_eq_true (show (x.length : Int) ≤ 8 by omega), decide_eq_false h4] <;> rfl
theorem keptL_lt : ∀ x ∈ keptL, x.length ≤ 6 := by decide +kernel
theorem keptX : ∀ x ∈ keptL, x ++ Str.ofString "x" ∉ keptL := by decide +kernel
theorem smS_x : SmS "x" := by unfold SmS; decide +kernel
theorem isIn_kept {x : Str} : opCmp .In (.str x) (.lst (keptL.map .str)) = some (decide (x ∈ keptL)) := isIn_lst (α := Str) (by decide)
theorem rep_kept : ∀ j : Fin 26, ∀ n : Fin 8, (match fIx (.str "abcdefghijklmnopqrstuvwxyz") (.int (j.val : Nat)) with
  | some (.val (.str x)) => decide (strRep x (n.val + 1) ∈ keptL)
  | _ => true) = false := by decide +kernel
theorem name_by_ok [R__law_name_by] {sh kk : Int} (hsh : 0 ≤ sh) (hk : 0 ≤ kk) (hk2 : kk ≤ 100) : ∃ x : Str, nameS x = true ∧ CC (k + 1) "_law_name_by" [.int sh, .int kk] S = .ok (.val (.str x)) S := by
  rw [R__law_name_by.run__law_name_by]
  by_cases c : sh % 4 = 0 ∧ kk < 8
  · obtain ⟨x, h1, h2, h3⟩ := letter (j := sh / 4 % 26) (Int.emod_nonneg _ (by decide)) (Int.emod_lt_of_pos _ (by decide))
    have hm : opMul (.str x) (.int (1 + kk)) = some (.val (.str (strRep x (1 + kk).toNat))) := if_pos ⟨by omega, by omega, by rw [h2]; show _ ≤ 4194304; omega⟩
    refine ⟨strRep x (1 + kk).toNat, nameS_of (by rw [rep_len, h2]; omega) (by rw [rep_len, h2]; omega) (h3.rep _) ?_, ?_⟩
    · have q := rep_kept ⟨(sh / 4 % 26).toNat, by omega⟩ ⟨kk.toNat, by omega⟩
      dsimp only at q
      rw [show (((sh / 4 % 26).toNat : Nat) : Int) = sh / 4 % 26 by omega, h1] at q
      have q : decide (strRep x (kk.toNat + 1) ∈ keptL) = false := q
      rw [show (1 + kk).toNat = kk.toNat + 1 by omega]
      exact of_decide_eq_false q
    · have c1 : (sh % 4 == 0) = true := by simpa using c.1
      simp [b__law_name_by, dPeek_eq, c1, c.1, c.2, h1, hm]
  · have c1 : ((sh % 4 == 0) && decide (kk < 8)) = false := by
      cases h : (sh % 4 == 0)
      · rfl
      · rw [beq_iff_eq] at h
        simp only [Bool.true_and, decide_eq_false_iff_not]
        exact fun z => c ⟨h, z⟩
    generalize hpl : sh / 4 % 7 = pl
    have p0 : 0 ≤ pl := by omega
    have p6 : pl ≤ 6 := by omega
    generalize hn : pl + 1 + sh / 28 % (8 - pl) = n
    have r0 : 0 ≤ sh / 28 % (8 - pl) := Int.emod_nonneg _ (by omega)
    have r1 : sh / 28 % (8 - pl) < 8 - pl := Int.emod_lt_of_pos _ (by omega)
    obtain ⟨nm, t5, e1, e2, e⟩ := name_loop (S := S) (F := CC k) sh kk pl hsh hk .no ((List.range n.toNat).map fun (i : Nat) => ((0 : Int) + i)) "" .no (fun t ht => by
      obtain ⟨i, hi, rfl⟩ := List.mem_map.mp ht
      have := List.mem_range.mp hi
      omega) (by rw [List.length_map, List.length_range]; show 0 + n.toNat ≤ 100; omega) (by unfold SmS; decide +kernel)
    rw [← upTo_eq] at e
    rw [List.length_map, List.length_range, show (Str.length "" = 0) from rfl, Nat.zero_add] at e1
    have hr := rng1_ok (j := n) (by omega) (by omega)
    have mp : opMod (.int (sh / 28)) (.int (8 - pl)) = some (.val (.int (sh / 28 % (8 - pl)))) := if_pos (by omega)
    by_cases ck : nm ∈ keptL
    · refine ⟨nm ++ "x", nameS_of (by rw [Str.length_append]; omega) (by have := keptL_lt nm ck; rw [Str.length_append]; show nm.length + 1 ≤ 8; omega) (e2.append smS_x) (keptX nm ck), ?_⟩
      have ad : opAdd (.str nm) (.str "x") = some (.val (.str (nm ++ "x"))) := if_pos (by show nm.length + 1 ≤ 4194304; omega)
      rcases Bool.and_eq_false_iff.mp c1 with c2 | c2
      · simp [b__law_name_by, dPeek_eq, c2, hpl, hn, mp, hr, e, pSplit_kept, isIn_kept, ck, ad]
      · cases c3 : (sh % 4 == 0) <;> simp [b__law_name_by, dPeek_eq, c2, c3, hpl, hn, mp, hr, e, pSplit_kept, isIn_kept, ck, ad]
    · refine ⟨nm, nameS_of (by omega) (by omega) e2 ck, ?_⟩
      rcases Bool.and_eq_false_iff.mp c1 with c2 | c2
      · simp [b__law_name_by, dPeek_eq, dRetV_eq, c2, hpl, hn, mp, hr, e, pSplit_kept, isIn_kept, ck]
      · cases c3 : (sh % 4 == 0) <;> simp [b__law_name_by, dPeek_eq, dRetV_eq, c2, c3, hpl, hn, mp, hr, e, pSplit_kept, isIn_kept, ck]
/-! deeds -/
abbrev Deed := Str × Str
def okDeed (p : Deed) : Prop := nameS p.1 = true ∧ nameS p.2 = true
theorem deed_enc {p : Deed} (h : okDeed p) : deedW (enc p) = true := by
  show (nameS p.1 && nameS p.2) = true
  rw [h.1, h.2] <;> rfl
theorem names_lc [R__law_name_by] {sh b : Int} {n : Nat} (hsh : 0 ≤ sh) (hb : 0 ≤ b) (hn : b + n ≤ 50) {di : DI} {te : DE} {x : Sl} {i : Nat} {τ : Tau} (hi : i < τ.length) (hpl : (τ.getD i .no).plain = true) (hk : (τ.any Sl.isPk) = false) (hd : di τ S = .ok (x, VM.upTo 0 n) τ S)
    (ht : ∀ (j : Int) (y : Str), 0 ≤ j → j < n → CC (k + 1) "_law_name_by" [.int sh, .int (b + j)] S = .ok (.val (.str y)) S → dKeep te (τ.set i (.val (.int j))) S = .ok (.val (.str y)) (τ.set i (.val (.int j))) S) :
    ∃ l : List Str, l.length = n ∧ (∀ x ∈ l, nameS x = true) ∧ dLc di (.one i) [i] dYes te τ S = .ok (.own (.lst (l.map .str))) τ S := by
  obtain ⟨f, hf, e⟩ := dLc_ex (di := di) (te := te) (fun _ v => ∃ x, v = .str x ∧ nameS x = true) hi hpl hk hd (fun w hw => by
    obtain ⟨j, rfl, j0, j1⟩ := upTo_mem hw
    obtain ⟨y, hy, e⟩ := name_by_ok (k := k) (S := S) (sh := sh) (kk := b + j) hsh (by omega) (by omega)
    exact ⟨_, ⟨y, rfl, hy⟩, ht j y j0 j1 e⟩) (by rw [upTo_len]; exact line_le (by omega))
  obtain ⟨l, el, hl⟩ := strs_typed (P := fun x => nameS x = true) (ws := (VM.upTo 0 n).map f) fun w hw => by
    obtain ⟨u, hu, rfl⟩ := List.mem_map.mp hw
    exact hf u hu
  refine ⟨l, ?_, hl, by rw [e, el]⟩
  have := congrArg List.length el
  rw [List.length_map, List.length_map, upTo_len] at this
  exact this.symm
theorem deeds_loop (ds : List Int) (hands acts : List Str) (hh : hands.length = 3) (ha : acts.length = 4) (dr : ∀ d ∈ ds, Drawn d) (okh : ∀ x ∈ hands, nameS x = true) (oka : ∀ x ∈ acts, nameS x = true) (mm : Sl) (hm : mm.isPk = false) : ∀ (ws : List Int) (l : List Deed) (s5 s6 : Sl), (∀ t ∈ ws, 0 ≤ t ∧ t + 2 < (ds.length : Int)) → l.length + ws.length ≤ 1000 → (∀ p ∈ l, okDeed p) → l.Nodup → s5.isPk = false → s6.isPk = false →
    ∃ (l' : List Deed) (t5 t6 : Sl), (∀ p ∈ l', okDeed p) ∧ l'.Nodup ∧ l'.length ≤ l.length + ws.length ∧ (l ≠ [] ∨ ws ≠ [] → l' ≠ []) ∧
    dLoop (gTg (.one 5)) (l__law_deeds_0 F) (ws.map .int) [.val (.lst (ds.map .int)), mm, .own (.lst (hands.map .str)), .own (.lst (acts.map .str)), .own (.lst (l.map enc)), s5, s6] S = .nx [.val (.lst (ds.map .int)), mm, .own (.lst (hands.map .str)), .own (.lst (acts.map .str)), .own (.lst (l'.map enc)), t5, t6] S
  | [], l, s5, s6, _, _, ok, nd, _, _ => ⟨l, s5, s6, ok, nd, by simp, fun h => h.elim id fun z => (z rfl).elim, by simp⟩
  | t :: ws, l, s5, s6, ht, hl, ok, nd, h5, h6 => by
    obtain ⟨t0, t1⟩ := ht t List.mem_cons_self
    have e1 := ix_ints (ds := ds) (j := 2 + t) (by omega) (by omega)
    generalize hd : ds.getD (2 + t).toNat 0 = d at e1
    have dd : Drawn d := by rw [← hd]; exact drawn_get dr _
    obtain ⟨a, am, ea⟩ := ix_strs (l := hands) (j := d % 3) (Int.emod_nonneg _ (by decide)) (by rw [hh]; exact Int.emod_lt_of_pos _ (by decide))
    obtain ⟨b, bm, eb⟩ := ix_strs (l := acts) (j := d / 3 % 4) (Int.emod_nonneg _ (by decide)) (by rw [ha]; exact Int.emod_lt_of_pos _ (by decide))
    have od : okDeed (a, b) := ⟨okh a am, oka b bm⟩
    have happ : mApp (.lst (l.map enc)) [.val (.tup [.str a, .str b])] = some (.non, .lst ((l ++ [(a, b)]).map enc)) := by
      show (if (l.map (enc : Deed → W)).length < seqLine then _ else _) = _
      rw [if_pos (by rw [List.length_map]; simp at hl; show _ < 1000000; omega), List.map_append]
      rfl
    rw [List.map_cons]
    by_cases m : (a, b) ∈ l
    · have ni : opCmp .NotIn (.tup [.str a, .str b]) (.lst (l.map enc)) = some false := notIn_yes (α := Deed) (a := (a, b)) (by decide) m
      obtain ⟨l', t5, t6, q1, q2, q3, q4, q5⟩ := deeds_loop ds hands acts hh ha dr okh oka mm hm ws l (.val (.int t)) (.val (.tup [.str a, .str b])) (fun u hu => ht u (List.mem_cons_of_mem _ hu)) (by simp at hl ⊢; omega) ok nd rfl rfl
      refine ⟨l', t5, t6, q1, q2, by simp at q3 ⊢; omega, fun _ => q4 (.inl fun z => by rw [z] at m; cases m), ?_⟩
      conv => lhs; unfold dLoop
      simp [l__law_deeds_0, dPeek_eq, e1, ea, eb, ni, seqLine]
      exact q5
    · have ni : opCmp .NotIn (.tup [.str a, .str b]) (.lst (l.map enc)) = some true := notIn_no (α := Deed) (a := (a, b)) (by decide) m
      obtain ⟨l', t5, t6, q1, q2, q3, q4, q5⟩ := deeds_loop ds hands acts hh ha dr okh oka mm hm ws (l ++ [(a, b)]) (.val (.int t)) (.val (.tup [.str a, .str b])) (fun u hu => ht u (List.mem_cons_of_mem _ hu)) (by simp at hl ⊢; omega) (fun p hp => by
        rcases List.mem_append.mp hp with q | q
        · exact ok p q
        · rw [List.mem_singleton.mp q]; exact od) (by
        rw [List.nodup_append]
        exact ⟨nd, by simp, fun x hx y hy => by rw [List.mem_singleton.mp hy]; exact fun z => m (z ▸ hx)⟩) rfl rfl
      refine ⟨l', t5, t6, q1, q2, by simp at q3 ⊢; omega, fun _ => q4 (.inl (by simp)), ?_⟩
      conv => lhs; unfold dLoop
      simp [l__law_deeds_0, dPeek_eq, dVar_eq, e1, ea, eb, ni, dMut_eq, happ, hm, seqLine]
      rw [List.map_append] at q5
      exact q5
theorem deeds_ok [R__law_name_by] [R__law_deeds] {ds : List Int} {m : Int} (dr : ∀ d ∈ ds, Drawn d) (hl : 2 ≤ ds.length) (h0 : 0 ≤ m) (hm : m + 2 ≤ ds.length) (hm2 : m ≤ 500) : ∃ l : List Deed, (∀ p ∈ l, okDeed p) ∧ l.Nodup ∧ (l.length : Int) ≤ m ∧ (0 < m → l ≠ []) ∧
    CC (k + 2) "_law_deeds" [.lst (ds.map .int), .int m] S = .ok (.own (.lst (l.map enc))) S := by
  rw [R__law_deeds.run__law_deeds]
  have e0 := ix_ints (ds := ds) (j := 0) (by omega) (by omega)
  have e1 := ix_ints (ds := ds) (j := 1) (by omega) (by omega)
  have d0 := drawn_get dr (0 : Int).toNat
  have d1 := drawn_get dr (1 : Int).toNat
  generalize ds.getD (0 : Int).toNat 0 = x0 at e0 d0
  generalize ds.getD (1 : Int).toNat 0 = x1 at e1 d1
  have r3 : rng1 [.val (.int 3)] = some (VM.upTo 0 3) := rng1_nat (m := 3) (by decide)
  have r4 : rng1 [.val (.int 4)] = some (VM.upTo 0 4) := rng1_nat (m := 4) (by decide)
  obtain ⟨hands, hh, okh, eh⟩ := names_lc (k := k) (S := S) (sh := x0) (b := 0) (n := 3) d0.1 (by decide) (by decide) (di := iRange1 (dCons (dKeep (dConst (.int 3))) dNil)) (te := dCallF (CC (k + 1) "_law_name_by") (dCons (dKeep (dOp2 fIx (dPeek 0) (dConst (.int 0)))) (dCons (dKeep (dVar 5)) dNil))) (x := .val .non) (i := 5) (τ := [.val (.lst (ds.map .int)), .val (.int m), .no, .no, .no, .no, .no]) (by simp) rfl rfl (by simp [r3]) (fun j y j0 j1 e => by
    rw [Int.zero_add] at e
    simp [dPeek_eq, dVar_eq, e0, e])
  obtain ⟨acts, ha, oka, ea⟩ := names_lc (k := k) (S := S) (sh := x1) (b := 3) (n := 4) d1.1 (by decide) (by decide) (di := iRange1 (dCons (dKeep (dConst (.int 4))) dNil)) (te := dCallF (CC (k + 1) "_law_name_by") (dCons (dKeep (dOp2 fIx (dPeek 0) (dConst (.int 1)))) (dCons (dKeep (dOp2 opAdd (dConst (.int 3)) (dPeek 5))) dNil))) (x := .val .non) (i := 5) (τ := [.val (.lst (ds.map .int)), .val (.int m), .own (.lst (hands.map .str)), .no, .no, .no, .no]) (by simp) rfl rfl (by simp [r4]) (fun j y j0 j1 e => by
    simp [dPeek_eq, e1, e])
  obtain ⟨l, t5, t6, q1, q2, q3, q4, q5⟩ := deeds_loop (S := S) (F := CC (k + 1)) ds hands acts hh ha dr okh oka (.val (.int m)) rfl ((List.range m.toNat).map fun (i : Nat) => ((0 : Int) + i)) [] .no .no (fun t ht => by
      obtain ⟨i, hi, rfl⟩ := List.mem_map.mp ht
      have := List.mem_range.mp hi
      omega) (by simp; omega) (fun p hp => by cases hp) List.nodup_nil rfl rfl
  rw [← upTo_eq] at q5
  have hr := rng1_ok (j := m) (by omega) (by omega)
  refine ⟨l, q1, q2, by simp at q3; omega, fun h => q4 (.inr fun z => by
    have := congrArg List.length z
    simp at this
    omega), ?_⟩
  rw [List.map_nil] at q5
  simp only [b__law_deeds, dSeq_eq, dAsg_eq, eh, ea, R.thenS_ok, gSet_own, List.set_cons_succ, List.set_cons_zero]
  simp [dVar_eq, dRetV_eq, hr, q5]
end
end VM

set_option Elab.async false
set_option linter.all false
set_option maxRecDepth 10000
set_option maxHeartbeats 2000000
/-! LMdayof: days made. -/
namespace VM
open PySem
open Enc (enc)
open Key (dD)
section
variable [Sys] [IsB] {k : Nat} {S : Store}
/-- deeds are typed -/
theorem deeds_typed : ∀ {xs : List W}, (xs.all deedW) = true → ∃ l : List Deed, xs = l.map enc ∧ ∀ p ∈ l, okDeed p
  | [], _ => ⟨[], rfl, fun _ h => by cases h⟩
  | x :: xs, h => by
    rw [List.all_cons, Bool.and_eq_true] at h
    obtain ⟨l, e, q⟩ := deeds_typed h.2
    obtain ⟨a, b, rfl⟩ := deed_is h.1
    have h1 : (nameS a && nameS b) = true := h.1
    rw [Bool.and_eq_true] at h1
    exact ⟨(a, b) :: l, by rw [e]; rfl, fun p hp => by
      rcases List.mem_cons.mp hp with rfl | hp
      · exact h1
      · exact q p hp⟩
theorem deed_plain {p : Deed} : (enc p : W).plainK = true := rfl
theorem deed_deep {p : Deed} : (enc p : W).deepK := ⟨rfl, fun xs h x hx => by
  cases h
  simp only [List.mem_cons, List.not_mem_nil, or_false] at hx
  rcases hx with rfl | rfl <;> rfl⟩
theorem deeds_all {l : List Deed} (ok : ∀ p ∈ l, okDeed p) : ((l.map (enc : Deed → W)).all deedW) = true := List.all_eq_true.mpr fun x hx => by
  obtain ⟨p, hp, rfl⟩ := List.mem_map.mp hx
  exact deed_enc (ok p hp)
theorem lc_deeds [R_kept_words] [R_is_name] [R_is_deed] {xs : List W} {w : W} (hw : w = .lst xs ∨ w = .tup xs) (hd : ∀ x ∈ xs, x.deepK) (hl : xs.length ≤ seqLine) :
    dLc (iSeqP (dPeek 0)) (.one 2) [2] dYes (dCallF (CC (k + 3) "is_deed") (dCons (dKeep (dVar 2)) dNil)) [.val w, .no, .no] S = .ok (.own (.lst (xs.map fun x => .bl (deedW x)))) [.val w, .no, .no] S := by
  refine dLc_m1 (fun w => W.bl (deedW w)) (x := .val w) (by simp) rfl (by rcases hw with rfl | rfl <;> rfl) (by rcases hw with rfl | rfl <;> simp [dPeek_eq] <;> rfl) (fun x hx => ?_) hl
  have := is_deed_ok (k := k) (S := S) (hd x hx).1 (hd x hx).2
  rcases hw with rfl | rfl <;> simp [dVar_eq, this]
theorem day_of_deeds [R_kept_words] [R_is_name] [R_is_deed] [R_day_of] {l : List Deed} (ok : ∀ p ∈ l, okDeed p) (hl : l.length < 64) {w : W} (hw : w = .lst (l.map enc) ∨ w = .tup (l.map enc)) :
    CC (k + 4) "day_of" [w] S = if (sortSet l).length ≤ 8 then .ok (.val (.tup ((sortSet l).map enc))) S else .ex "NoDay" S := by
  rw [R_day_of.run_day_of]
  have hc := lc_deeds (k := k) (S := S) hw (fun x hx => by
    obtain ⟨p, _, rfl⟩ := List.mem_map.mp hx
    exact deed_deep) (by rw [List.length_map]; exact line_le (by omega))
  have ha := all_bls (l.map (enc : Deed → W)) deedW
  rw [deeds_all ok] at ha
  have fs : fSortSet w = some (.own (.lst ((sortSet l).map enc))) := by
    rcases hw with rfl | rfl
    · exact fSortSet_lst hl
    · exact fSortSet_tup hl
  have hty : isAnyB (TT).ecs (TT).isT w [.bt "list", .bt "tuple"] = some true := by rcases hw with rfl | rfl <;> simp [isAny]
  have hH : w.isH = false := by rcases hw with rfl | rfl <;> rfl
  by_cases h8 : (sortSet l).length ≤ 8
  · have h9 : decide ((8 : Int) < ((sortSet l).length : Int)) = false := decide_eq_false (by omega)
    rw [if_pos h8]
    simp [-List.map_map, b_day_of, dPeek_eq, hc, ha, fs, hty, h9, rdS_val hH]
  · have h9 : decide ((8 : Int) < ((sortSet l).length : Int)) = true := decide_eq_true (by omega)
    rw [if_neg h8]
    simp [-List.map_map, b_day_of, dPeek_eq, hc, ha, fs, hty, h9, rdS_val hH]
theorem day_of_odd [R_kept_words] [R_is_name] [R_is_deed] [R_day_of] {xs : List W} {w : W} (hw : w = .lst xs ∨ w = .tup xs) (hd : ∀ x ∈ xs, x.deepK) (hl : xs.length ≤ seqLine) (no : (xs.all deedW) = false) :
    CC (k + 4) "day_of" [w] S = .ex "NoDay" S := by
  rw [R_day_of.run_day_of]
  have hc := lc_deeds (k := k) (S := S) hw hd hl
  have ha := all_bls xs deedW
  rw [no] at ha
  have hty : isAnyB (TT).ecs (TT).isT w [.bt "list", .bt "tuple"] = some true := by rcases hw with rfl | rfl <;> simp [isAny]
  have hH : w.isH = false := by rcases hw with rfl | rfl <;> rfl
  simp [-List.map_map, b_day_of, dPeek_eq, hc, ha, hty, rdS_val hH]
theorem day_of_none [R_day_of] {w : W} (hty : isAnyB (TT).ecs (TT).isT w [.bt "list", .bt "tuple"] = some false) : CC (k + 1) "day_of" [w] S = .ex "NoDay" S := by
  rw [R_day_of.run_day_of]
  have hH : w.isH = false := by
    cases w with
    | hnd n => cases hty
    | _ => rfl
  simp [b_day_of, dPeek_eq, hty, rdS_val hH]
end
end VM

set_option Elab.async false
set_option linter.all false
set_option maxRecDepth 10000
set_option maxHeartbeats 2000000
/-! LMwords: words, days and rows read of texts. -/
namespace VM
open PySem
open Enc (enc)
open Key (dD)
def wordsT (x : Str) : List Str := ((splitL 32 x.cps.toList).map sgn).filter fun y => !decide (y = "")
theorem wordsT_ok {x : Str} (h : okX x) : ∀ y ∈ wordsT x, okX y := fun y hy => by
  obtain ⟨p, hp, rfl⟩ := List.mem_map.mp (List.mem_filter.mp hy).1
  exact okX_sgn h (by have := splitL_len 32 _ p hp; rwa [Array.length_toList] at this) (splitL_sub 32 _ p hp)
theorem parts_ok {x : Str} (h : okX x) (c : Nat) : ∀ y ∈ (splitL c x.cps.toList).map sgn, okX y := fun y hy => by
  obtain ⟨p, hp, rfl⟩ := List.mem_map.mp hy
  exact okX_sgn h (by have := splitL_len c _ p hp; rwa [Array.length_toList] at this) (splitL_sub c _ p hp)
theorem parts_many {x : Str} (h : okX x) (c : Nat) : ((splitL c x.cps.toList).map sgn).length ≤ 100001 := by
  rw [List.length_map]
  have m := splitL_many c x.cps.toList
  have q := h.1
  have l0 : x.cps.toList.length = x.length := Array.length_toList
  omega
theorem split_sp {x : Str} (h : okX x) : pSplit (.str x) [.str " "] = some (.own (.lst (((splitL 32 x.cps.toList).map sgn).map .str))) := pSplit_ok (c := 32) h
theorem split_co {x : Str} (h : okX x) : pSplit (.str x) [.str ","] = some (.own (.lst (((splitL 44 x.cps.toList).map sgn).map .str))) := pSplit_ok (c := 44) h
theorem split_nl {x : Str} (h : okX x) : pSplit (.str x) [.str "\n"] = some (.own (.lst (((splitL 10 x.cps.toList).map sgn).map .str))) := pSplit_ok (c := 10) h
section
variable [Sys] [IsB] {k : Nat} {S : Store}
theorem words_ok [R_words_of_days] {x : Str} (h : okX x) : CC (k + 1) "words_of_days" [.str x] S = .ok (.own (.lst ((wordsT x).map .str))) S := by
  rw [R_words_of_days.run_words_of_days]
  have sp := split_sp h
  have many := parts_many h 32
  have hc := dLc_fm1 (di := iSeq (dMeth "str" pSplit (dPeek 0) (dCons (dConst (.str " ")) dNil))) (i := 1) (tt := dCmpT (opCmp .NotEq) (dPeek 1) (dConst (.str ""))) (te := dVar 1) (fun w => match w with | .str y => !decide (y = "") | _ => false) id (ws := ((splitL 32 x.cps.toList).map sgn).map .str) (x := .val (.lst (((splitL 32 x.cps.toList).map sgn).map .str))) (τ := [.val (.str x), .no]) (S := S) (by simp) rfl rfl
    (by simp [-List.map_map, dPeek_eq, sp]) (fun w hw => by
      obtain ⟨y, _, rfl⟩ := List.mem_map.mp hw
      have e : opCmp .NotEq (.str y) (.str "") = some (!decide (y = "")) := opNe_enc (α := Str) (by decide)
      simp [dPeek_eq, e]) (fun w hw _ => by
      obtain ⟨y, _, rfl⟩ := List.mem_map.mp hw
      simp [dVar_eq]) (by rw [List.length_map]; exact line_le (by omega))
  have e : ((((splitL 32 x.cps.toList).map sgn).map W.str).filter (fun w => match w with | .str y => !decide (y = "") | _ => false)).map id = (wordsT x).map .str := by
    rw [List.map_id, List.filter_map] <;> rfl
  rw [e] at hc
  simp [b_words_of_days, hc]
/-- the deeds that a text's parts tell -/
def partsW (x : Str) : List W := ((splitL 44 x.cps.toList).map sgn).map fun y => .tup ((wordsT y).map .str)
theorem read_day_ok [R_words_of_days] [R_read_day] {x : Str} (h : okX x) : CC (k + 2) "read_day" [.str x] S = if wordsT x = ([("-" : Str)] : List Str) then .ok (.val (.tup [])) S else (match CC (k + 1) "day_of" [.lst (partsW x)] S with
    | .ok r S' => (match r.out with
      | some r => .ok r S'
      | none => .no)
    | .ex C S' => .ex C S'
    | .no => .no) := by
  rw [R_read_day.run_read_day]
  have hw := words_ok (k := k) (S := S) h
  have e : opCmp .Eq (.lst ((wordsT x).map .str)) (.lst [.str "-"]) = some (decide (wordsT x = ([("-" : Str)] : List Str))) := opEq_enc (α := List Str) (b := [("-" : Str)]) (by decide)
  by_cases c : wordsT x = ([("-" : Str)] : List Str)
  · have e' : opCmp .Eq (.lst ((wordsT x).map .str)) (.lst [.str "-"]) = some true := by rw [e, decide_eq_true c]
    rw [if_pos c]
    simp [-List.map_map, b_read_day, dPeek_eq, dVar_eq, hw, e', seqLine]
  · have e' : opCmp .Eq (.lst ((wordsT x).map .str)) (.lst [.str "-"]) = some false := by rw [e, decide_eq_false c]
    rw [if_neg c]
    have co := split_co h
    have many := parts_many h 44
    have pk := parts_ok h 44
    have hc := dLc_m1 (di := iSeq (dMeth "str" pSplit (dPeek 0) (dCons (dConst (.str ",")) dNil))) (i := 1) (te := dCall (f1 fTuple) (dCons (dCallF (CC (k + 1) "words_of_days") (dCons (dKeep (dVar 1)) dNil)) dNil)) (fun w => match w with | .str y => .tup ((wordsT y).map .str) | _ => .non) (ws := ((splitL 44 x.cps.toList).map sgn).map .str) (x := .val (.lst (((splitL 44 x.cps.toList).map sgn).map .str))) (τ := [.val (.str x), .no]) (S := S) (by simp) rfl rfl
      (by simp [-List.map_map, dPeek_eq, co]) (fun w hw => by
        obtain ⟨y, hy, rfl⟩ := List.mem_map.mp hw
        have := words_ok (k := k) (S := S) (pk y hy)
        simp [-List.map_map, dVar_eq, this]) (by rw [List.length_map]; exact line_le (by omega))
    have e2 : (((splitL 44 x.cps.toList).map sgn).map W.str).map (fun w => match w with | .str y => W.tup ((wordsT y).map .str) | _ => .non) = partsW x := by
      rw [List.map_map] <;> rfl
    rw [e2] at hc
    cases hd : CC (k + 1) "day_of" [.lst (partsW x)] S with
    | ok r S' =>
      simp [-List.map_map, b_read_day, dPeek_eq, dVar_eq, hw, e', seqLine, hc, hd]
      cases r.out <;> rfl
    | ex C S' => simp [-List.map_map, b_read_day, dPeek_eq, dVar_eq, hw, e', seqLine, hc, hd]
    | no =>
      simp [-List.map_map, b_read_day, dPeek_eq, dVar_eq, hw, e', seqLine, hc, hd]
      rfl
end
end VM

set_option Elab.async false
set_option linter.all false
set_option maxRecDepth 10000
set_option maxHeartbeats 2000000
/-! LMline: words of lines that are put together. -/
namespace VM
open PySem
open Enc (enc)
open Key (dD)
def wl (l : List Nat) : List (List Nat) := (splitL 32 l).filter fun p => !p.isEmpty
theorem wl_nil : wl [] = [] := rfl
theorem wl_sp (l : List Nat) : wl (32 :: l) = wl l := by
  unfold wl
  rw [show splitL 32 (32 :: l) = [] :: splitL 32 l from if_pos rfl] <;> rfl
theorem wl_sps (l : List Nat) : ∀ n, wl (List.replicate n 32 ++ l) = wl l
  | 0 => rfl
  | n + 1 => by rw [List.replicate_succ, List.cons_append, wl_sp, wl_sps l n]
theorem wl_word {a : List Nat} (l : List Nat) (h : a ≠ []) (f : 32 ∉ a) : wl (a ++ 32 :: l) = a :: wl l := by
  unfold wl
  rw [split_app 32 l a f, List.filter_cons]
  cases a with
  | nil => exact (h rfl).elim
  | cons x r => rfl
theorem wl_one {a : List Nat} (h : a ≠ []) (f : 32 ∉ a) : wl a = [a] := by
  unfold wl
  rw [split_one 32 a f, List.filter_cons]
  cases a with
  | nil => exact (h rfl).elim
  | cons x r => rfl
theorem wl_end {a : List Nat} (h : a ≠ []) (f : 32 ∉ a) : ∀ n, wl (a ++ List.replicate n 32) = [a]
  | 0 => by rw [List.replicate_zero, List.append_nil, wl_one h f]
  | n + 1 => by
    rw [List.replicate_succ, wl_word _ h f]
    have := wl_sps [] n
    rw [List.append_nil] at this
    rw [this] <;> rfl
/-- two words, blanks ahead, between, behind -/
theorem wl_two {a b : List Nat} (ha : a ≠ []) (fa : 32 ∉ a) (hb : b ≠ []) (fb : 32 ∉ b) (i j k : Nat) : wl (List.replicate i 32 ++ (a ++ (List.replicate (j + 1) 32 ++ (b ++ List.replicate k 32)))) = [a, b] := by
  rw [wl_sps, List.replicate_succ, List.cons_append, wl_word _ ha fa, wl_sps, wl_end hb fb]
theorem sgn_empty {p : List Nat} : sgn p = "" ↔ p = [] := by
  constructor
  · intro h
    have q : (sgn p).cps.toList = ("" : Str).cps.toList := congrArg (fun x : Str => x.cps.toList) h
    rw [list_sgn] at q
    have e : ("" : Str).cps.toList = [] := by kernel_rfl
    rw [q, e]
  · intro h
    subst h
    rfl
theorem wordsT_wl (x : Str) : wordsT x = (wl x.cps.toList).map sgn := by
  unfold wordsT wl
  rw [List.filter_map]
  congr 1
  refine List.filter_congr fun p _ => ?_
  show (!decide (sgn p = "")) = !p.isEmpty
  cases p with
  | nil => rfl
  | cons a r =>
    have : ¬ sgn (a :: r) = "" := fun h => by
      have := sgn_empty.mp h
      cases this
    rw [decide_eq_false this] <;> rfl
theorem small_sp : smallX ⟨#[32]⟩ = false := by decide +kernel
theorem small_co : smallX ⟨#[44]⟩ = false := by decide +kernel
theorem small_nl : smallX ⟨#[10]⟩ = false := by decide +kernel
theorem small_mi : smallX ⟨#[45]⟩ = false := by decide +kernel
theorem name_free {x : Str} (h : nameS x = true) {c : Nat} (hc : smallX ⟨#[c]⟩ = false) : c ∉ x.cps.toList := fun z => by
  unfold nameS at h
  rw [Bool.and_eq_true, Bool.and_eq_true, Bool.and_eq_true] at h
  have := List.all_eq_true.mp h.2.1 c z
  rw [hc] at this
  cases this
theorem name_ne {x : Str} (h : nameS x = true) : x.cps.toList ≠ [] := fun z => by
  unfold nameS at h
  rw [Bool.and_eq_true, Bool.and_eq_true, decide_eq_true_eq] at h
  have l0 : x.cps.toList.length = x.length := Array.length_toList
  rw [z] at l0
  have := h.1.1
  simp at l0
  omega
theorem partsW_of {x : Str} {ps : List (List Nat)} {l : List Deed} (hx : x.cps.toList = glueL 44 ps) (hne : ps ≠ []) (f : ∀ p ∈ ps, 44 ∉ p) (w : ps.map wl = l.map fun d => [d.1.cps.toList, d.2.cps.toList]) : partsW x = l.map enc := by
  unfold partsW
  rw [hx, split_glue 44 ps hne f, List.map_map]
  have e1 : ps.map ((fun y : Str => W.tup ((wordsT y).map .str)) ∘ sgn) = (ps.map wl).map fun q => W.tup ((q.map sgn).map .str) := by
    rw [List.map_map]
    exact List.map_congr_left fun p _ => by
      show W.tup ((wordsT (sgn p)).map .str) = W.tup (((wl p).map sgn).map .str)
      rw [wordsT_wl, list_sgn]
  rw [e1, w, List.map_map]
  exact List.map_congr_left fun d _ => by
    show W.tup [.str (sgn d.1.cps.toList), .str (sgn d.2.cps.toList)] = W.tup [.str d.1, .str d.2]
    rw [sgn_list, sgn_list]
theorem not_dash {x : Str} {a : List Nat} {r : List Nat} (i : Nat) (hx : x.cps.toList = List.replicate i 32 ++ (a ++ 32 :: r)) (ha : a ≠ []) (fa : 32 ∉ a) (fm : 45 ∉ a) : wordsT x ≠ ([("-" : Str)] : List Str) := by
  rw [wordsT_wl, hx, wl_sps, wl_word r ha fa]
  intro h
  have h := congrArg (fun l : List Str => l.map fun y => y.cps.toList) h
  have e : ([("-" : Str)] : List Str).map (fun y => y.cps.toList) = [[45]] := by kernel_rfl
  rw [e, List.map_cons, List.map_cons, list_sgn] at h
  have := (List.cons.inj h).1
  rw [this] at fm
  exact fm List.mem_cons_self
section
variable [Sys] [IsB] {k : Nat} {S : Store}
/-- a line of deeds, read -/
theorem read_deeds [R_kept_words] [R_is_name] [R_is_deed] [R_day_of] [R_words_of_days] [R_read_day] {x : Str} {ps : List (List Nat)} {l : List Deed} (okx : okX x) (ok : ∀ p ∈ l, okDeed p) (hl : l.length < 64) (hx : x.cps.toList = glueL 44 ps) (hne : ps ≠ [])
    (f : ∀ p ∈ ps, 44 ∉ p) (w : ps.map wl = l.map fun d => [d.1.cps.toList, d.2.cps.toList]) (nd : wordsT x ≠ ([("-" : Str)] : List Str)) :
    CC (k + 5) "read_day" [.str x] S = if (sortSet l).length ≤ 8 then .ok (.val (.tup ((sortSet l).map enc))) S else .ex "NoDay" S := by
  rw [read_day_ok (k := k + 3) okx, if_neg nd, partsW_of hx hne f w, day_of_deeds (k := k) ok hl (.inl rfl)]
  by_cases h8 : (sortSet l).length ≤ 8
  · rw [if_pos h8] <;> rfl
  · rw [if_neg h8] <;> rfl
theorem read_dash [R_words_of_days] [R_read_day] {x : Str} (okx : okX x) (d : wordsT x = ([("-" : Str)] : List Str)) : CC (k + 2) "read_day" [.str x] S = .ok (.val (.tup [])) S := by
  rw [read_day_ok okx, if_pos d]
end
end VM

set_option Elab.async false
set_option linter.all false
set_option maxRecDepth 10000
set_option maxHeartbeats 2000000
/-! LMdtext: the text of a day. -/
namespace VM
open PySem
open Enc (enc)
open Key (dD)
def deedT (p : Deed) : Str := Txt.join " " [p.1, p.2]
def dayT (l : List Deed) : Str := if l = [] then "-" else Txt.join ", " (l.map deedT)
theorem name_len {x : Str} (h : nameS x = true) : x.length ≤ 8 := by
  unfold nameS at h
  rw [Bool.and_eq_true, Bool.and_eq_true, decide_eq_true_eq, decide_eq_true_eq] at h
  omega
theorem deedT_eq (p : Deed) : deedT p = p.1 ++ " " ++ p.2 := by
  unfold deedT Txt.join
  rw [StrLaws.glued_eq_join] <;> rfl
theorem deedT_len {p : Deed} (h : okDeed p) : (deedT p).length ≤ 17 := by
  have h1 := name_len h.1
  have h2 := name_len h.2
  rw [deedT_eq, Str.length_append, Str.length_append]
  show p.1.length + 1 + p.2.length ≤ 17
  omega
theorem pJoin_tup {a : Str} {l : List Str} (h : (l.map (·.length)).sum + l.length * a.length ≤ strLine) : pJoin (.str a) [.tup (l.map .str)] = some (.val (.str (Txt.join a l))) := by
  show (W.strs (l.map .str)).bind _ = _
  rw [W.strs_map]
  exact if_pos h
theorem pJoin_lst {a : Str} {l : List Str} (h : (l.map (·.length)).sum + l.length * a.length ≤ strLine) : pJoin (.str a) [.lst (l.map .str)] = some (.val (.str (Txt.join a l))) := by
  show (W.strs (l.map .str)).bind _ = _
  rw [W.strs_map]
  exact if_pos h
theorem sum_of {l : List Str} {n : Nat} (h : ∀ x ∈ l, x.length ≤ n) : (l.map (·.length)).sum ≤ l.length * n := by
  induction l with
  | nil => simp
  | cons x l ih =>
    have h1 := h x List.mem_cons_self
    have h2 := ih fun y hy => h y (List.mem_cons_of_mem _ hy)
    rw [List.map_cons, List.sum_cons, List.length_cons, Nat.succ_mul]
    omega
section
variable [Sys] [IsB] {k : Nat} {S : Store}
theorem day_text_ok [R_day_text] {l : List Deed} (ok : ∀ p ∈ l, okDeed p) (hl : l.length ≤ 1000) : CC (k + 1) "day_text" [.tup (l.map enc)] S = .ok (.val (.str (dayT l))) S := by
  rw [R_day_text.run_day_text]
  have e : opCmp .Eq (.tup (l.map enc)) (.tup []) = some (decide (l = [])) := by
    have q := opEq_enc (α := Tup Deed) (a := ⟨l⟩) (b := ⟨[]⟩) (by decide)
    have z : decide ((⟨l⟩ : Tup Deed) = ⟨[]⟩) = decide (l = []) := by simp
    rw [z] at q
    exact q
  by_cases c : l = []
  · have e' : opCmp .Eq (.tup (l.map enc)) (.tup []) = some true := by rw [e, decide_eq_true c]
    have d : dayT l = "-" := if_pos c
    rw [d]
    simp [-List.map_map, b_day_text, dPeek_eq, e', seqLine]
  · have e' : opCmp .Eq (.tup (l.map enc)) (.tup []) = some false := by rw [e, decide_eq_false c]
    have d : dayT l = Txt.join ", " (l.map deedT) := if_neg c
    have hc := dLc_m1 (di := iSeqP (dPeek 0)) (i := 1) (te := dMeth "str" pJoin (dConst (.str " ")) (dCons (dPeek 1) dNil)) (fun w => match w with | .tup [.str a, .str b] => .str (deedT (a, b)) | _ => .non) (ws := l.map (enc : Deed → W)) (x := .val (.tup (l.map enc))) (τ := [.val (.tup (l.map enc)), .no]) (S := S) (by simp) rfl rfl (by simp [dPeek_eq] <;> rfl) (fun w hw => by
      obtain ⟨p, hp, rfl⟩ := List.mem_map.mp hw
      have h1 := name_len (ok p hp).1
      have h2 := name_len (ok p hp).2
      have j : pJoin (.str " ") [.tup [.str p.1, .str p.2]] = some (.val (.str (deedT p))) := pJoin_tup (l := [p.1, p.2]) (by
        show p.1.length + (p.2.length + 0) + 2 * 1 ≤ 4194304
        omega)
      have ee : (enc p : W) = .tup [.str p.1, .str p.2] := rfl
      rw [ee]
      simp [dPeek_eq, j]) (by rw [List.length_map]; exact line_le (by omega))
    have e2 : (l.map (enc : Deed → W)).map (fun w => match w with | .tup [.str a, .str b] => W.str (deedT (a, b)) | _ => .non) = (l.map deedT).map .str := by
      rw [List.map_map, List.map_map] <;> rfl
    rw [e2] at hc
    have j : pJoin (.str ", ") [.lst ((l.map deedT).map .str)] = some (.val (.str (Txt.join ", " (l.map deedT)))) := pJoin_lst (by
      have := sum_of (l := l.map deedT) (n := 17) fun x hx => by
        obtain ⟨p, hp, rfl⟩ := List.mem_map.mp hx
        exact deedT_len (ok p hp)
      rw [List.length_map] at this ⊢
      show _ + l.length * 2 ≤ 4194304
      omega)
    rw [d]
    simp [-List.map_map, b_day_text, dPeek_eq, e', seqLine, hc, j]
end
end VM

set_option Elab.async false
set_option linter.all false
set_option maxRecDepth 10000
set_option maxHeartbeats 2000000
/-! LMjoin: a day's text, sign by sign. -/
namespace VM
open PySem
open Enc (enc)
open Key (dD)
theorem app_list (a b : Str) : (a ++ b).cps.toList = a.cps.toList ++ b.cps.toList := by
  rw [show (a ++ b).cps = a.cps ++ b.cps from rfl, Array.toList_append]
theorem co_list : (", " : Str).cps.toList = [44, 32] := by kernel_rfl
theorem sp_list : (" " : Str).cps.toList = [32] := by kernel_rfl
theorem join_co : ∀ (qs : List Str) (q : Str), (Str.join ", " (q :: qs)).cps.toList = glueL 44 (q.cps.toList :: qs.map fun s => 32 :: s.cps.toList)
  | [], q => rfl
  | y :: r, q => by
    have ih := join_co r y
    have e : Str.join ", " (q :: y :: r) = q ++ ", " ++ Str.join ", " (y :: r) := rfl
    rw [e, app_list, app_list, ih, co_list]
    show q.cps.toList ++ [44, 32] ++ glueL 44 (y.cps.toList :: r.map fun s => 32 :: s.cps.toList) = q.cps.toList ++ 44 :: glueL 44 ((32 :: y.cps.toList) :: r.map fun s => 32 :: s.cps.toList)
    rw [glueL_cons, List.append_assoc] <;> rfl
theorem deedT_list (p : Deed) : (deedT p).cps.toList = p.1.cps.toList ++ 32 :: p.2.cps.toList := by
  rw [deedT_eq, app_list, app_list, sp_list, List.append_assoc] <;> rfl
theorem dayT_list (p : Deed) (r : List Deed) : (dayT (p :: r)).cps.toList = glueL 44 ((deedT p).cps.toList :: r.map fun d => 32 :: (deedT d).cps.toList) := by
  have d : dayT (p :: r) = Txt.join ", " ((p :: r).map deedT) := if_neg (by simp)
  rw [d]
  unfold Txt.join
  rw [StrLaws.glued_eq_join, List.map_cons, join_co, List.map_map] <;> rfl
theorem wl_deed {p : Deed} (ok : okDeed p) : wl (deedT p).cps.toList = [p.1.cps.toList, p.2.cps.toList] := by
  have := wl_two (name_ne ok.1) (name_free ok.1 small_sp) (name_ne ok.2) (name_free ok.2 small_sp) 0 0 0
  rw [deedT_list]
  simpa using this
theorem free_deed {p : Deed} (ok : okDeed p) {c : Nat} (hc : smallX ⟨#[c]⟩ = false) (n : c ≠ 32) : c ∉ (deedT p).cps.toList := by
  rw [deedT_list]
  intro h
  rcases List.mem_append.mp h with h | h
  · exact name_free ok.1 hc h
  · rcases List.mem_cons.mp h with h | h
    · exact n h
    · exact name_free ok.2 hc h
theorem dayT_parts {p : Deed} {r : List Deed} (ok : ∀ d ∈ p :: r, okDeed d) : let ps := (deedT p).cps.toList :: r.map fun d => 32 :: (deedT d).cps.toList
    (∀ q ∈ ps, 44 ∉ q) ∧ ps.map wl = (p :: r).map fun d => [d.1.cps.toList, d.2.cps.toList] := by
  refine ⟨fun q hq => ?_, ?_⟩
  · rcases List.mem_cons.mp hq with rfl | hq
    · exact free_deed (ok p List.mem_cons_self) small_co (by decide)
    · obtain ⟨d, hd, rfl⟩ := List.mem_map.mp hq
      intro h
      rcases List.mem_cons.mp h with h | h
      · cases h
      · exact free_deed (ok d (List.mem_cons_of_mem _ hd)) small_co (by decide) h
  · rw [List.map_cons, List.map_cons, wl_deed (ok p List.mem_cons_self), List.map_map]
    congr 1
    exact List.map_congr_left fun d hd => by
      show wl (32 :: (deedT d).cps.toList) = _
      rw [wl_sp, wl_deed (ok d (List.mem_cons_of_mem _ hd))]
theorem dayT_dash {p : Deed} {r : List Deed} (ok : okDeed p) : wordsT (dayT (p :: r)) ≠ ([("-" : Str)] : List Str) := by
  have fm := name_free ok.1 small_mi
  cases r with
  | nil => exact not_dash (r := p.2.cps.toList) 0 (by rw [dayT_list, List.map_nil]; show (deedT p).cps.toList = _; rw [deedT_list] <;> rfl) (name_ne ok.1) (name_free ok.1 small_sp) fm
  | cons d r =>
    refine not_dash (a := p.1.cps.toList) (r := p.2.cps.toList ++ 44 :: glueL 44 ((d :: r).map fun d => 32 :: (deedT d).cps.toList)) 0 ?_ (name_ne ok.1) (name_free ok.1 small_sp) fm
    rw [dayT_list]
    show (deedT p).cps.toList ++ 44 :: glueL 44 ((d :: r).map fun d => 32 :: (deedT d).cps.toList) = _
    rw [deedT_list, List.append_assoc] <;> rfl
theorem small_lt {c : Nat} (h : smallX ⟨#[c]⟩ = true) : c < 1114112 := by
  have q := StrLaws.found_one "abcdefghijklmnopqrstuvwxyz" c
  have h : (!(Builtin.Str.occurrences "abcdefghijklmnopqrstuvwxyz" ⟨#[c]⟩ 0 (Str.length "abcdefghijklmnopqrstuvwxyz") 1).isEmpty) = true := h
  rw [h] at q
  have m : c ∈ ("abcdefghijklmnopqrstuvwxyz" : Str).cps.toList := of_decide_eq_true q.symm
  have all : ∀ a ∈ ("abcdefghijklmnopqrstuvwxyz" : Str).cps.toList, a < 1114112 := by decide +kernel
  exact all c m
theorem okX_of {x : Str} (hl : x.length ≤ 100000) (h : ∀ a ∈ x.cps.toList, a < 1114112) : okX x := by
  refine ⟨hl, ?_⟩
  unfold PyData.strOk
  rw [Array.all_eq_true_iff_forall_mem]
  intro a ha
  exact decide_eq_true (h a (Array.mem_toList_iff.mpr ha))
theorem name_lt {x : Str} (h : nameS x = true) : ∀ a ∈ x.cps.toList, a < 1114112 := fun a ha => by
  unfold nameS at h
  rw [Bool.and_eq_true, Bool.and_eq_true, Bool.and_eq_true] at h
  exact small_lt (List.all_eq_true.mp h.2.1 a ha)
theorem glueL_mem (c : Nat) : ∀ (ps : List (List Nat)) (a : Nat), a ∈ glueL c ps → a = c ∨ ∃ p ∈ ps, a ∈ p
  | [], a, h => by cases h
  | [p], a, h => .inr ⟨p, List.mem_cons_self, h⟩
  | p :: q :: r, a, h => by
    have h : a ∈ p ++ c :: glueL c (q :: r) := h
    rcases List.mem_append.mp h with h | h
    · exact .inr ⟨p, List.mem_cons_self, h⟩
    · rcases List.mem_cons.mp h with h | h
      · exact .inl h
      · rcases glueL_mem c (q :: r) a h with h | ⟨z, hz, h⟩
        · exact .inl h
        · exact .inr ⟨z, List.mem_cons_of_mem _ hz, h⟩
theorem deed_lt {p : Deed} (ok : okDeed p) : ∀ a ∈ (deedT p).cps.toList, a < 1114112 := fun a ha => by
  rw [deedT_list] at ha
  rcases List.mem_append.mp ha with h | h
  · exact name_lt ok.1 a h
  · rcases List.mem_cons.mp h with h | h
    · omega
    · exact name_lt ok.2 a h
theorem dayT_lt {l : List Deed} (ok : ∀ d ∈ l, okDeed d) : ∀ a ∈ (dayT l).cps.toList, a < 1114112 := by
  cases l with
  | nil => decide +kernel
  | cons p r =>
    intro a ha
    rw [dayT_list] at ha
    rcases glueL_mem 44 _ a ha with h | ⟨q, hq, h⟩
    · omega
    · rcases List.mem_cons.mp hq with rfl | hq
      · exact deed_lt (ok p List.mem_cons_self) a h
      · obtain ⟨d, hd, rfl⟩ := List.mem_map.mp hq
        rcases List.mem_cons.mp h with h | h
        · omega
        · exact deed_lt (ok d (List.mem_cons_of_mem _ hd)) a h
section
variable [Sys] [IsB] {k : Nat} {S : Store}
/-- what a day's text tells is the day -/
theorem read_dayT [R_kept_words] [R_is_name] [R_is_deed] [R_day_of] [R_words_of_days] [R_read_day] {l : List Deed} (ok : ∀ d ∈ l, okDeed d) (rise : l.Pairwise ltK) (h8 : l.length ≤ 8) (len : (dayT l).length ≤ 100000) :
    CC (k + 5) "read_day" [.str (dayT l)] S = .ok (.val (.tup (l.map enc))) S := by
  have okx : okX (dayT l) := okX_of len (dayT_lt ok)
  cases l with
  | nil => exact read_dash (k := k + 3) okx (by decide +kernel)
  | cons p r =>
    obtain ⟨f, w⟩ := dayT_parts ok
    have q := read_deeds (k := k) (S := S) okx ok (by omega) (dayT_list p r) (by simp) f w (dayT_dash (ok p List.mem_cons_self))
    rw [sortSet_id rise, if_pos h8] at q
    exact q
end
end VM

set_option Elab.async false
set_option linter.all false
set_option maxRecDepth 10000
set_option maxHeartbeats 1000000
/-! LMtree: trees of clauses, events, what is read, by plain functions. -/
namespace VM
open PySem
open Enc (enc)
inductive Tree where
  | kept | broken
  | must (h a : Str) (n : Nat) (d : Tree)
  | shun (h a : Str) (n : Nat) (d : Tree)
  | may (h a : Str) (n : Nat)
  | whn (h a : Str) (n : Nat) (c d : Tree)
  | both (c d : Tree)
  | next (c d : Tree)
  | again (c : Tree)
  | till (h a : Str) (c : Tree)
  | fee (s : Nat) (h t : Str)
  | share (s : Nat) (h : Str) (hs : List Str)
  | each (v : Str) (hs : List Str) (c : Tree)
  deriving Inhabited
namespace Tree
def w : Tree → W
  | kept => .tup [.str "kept"]
  | broken => .tup [.str "broken"]
  | must h a n d => .tup [.str "must", .str h, .str a, .int (n : Int), d.w]
  | shun h a n d => .tup [.str "shun", .str h, .str a, .int (n : Int), d.w]
  | may h a n => .tup [.str "may", .str h, .str a, .int (n : Int)]
  | whn h a n c d => .tup [.str "when", .str h, .str a, .int (n : Int), c.w, d.w]
  | both c d => .tup [.str "both", c.w, d.w]
  | next c d => .tup [.str "next", c.w, d.w]
  | again c => .tup [.str "again", c.w]
  | till h a c => .tup [.str "till", .str h, .str a, c.w]
  | fee s h t => .tup [.str "fee", .int (s : Int), .str h, .str t]
  | share s h hs => .tup [.str "share", .int (s : Int), .str h, .tup (hs.map .str)]
  | each v hs c => .tup [.str "each", .str v, .tup (hs.map .str), c.w]
/-- no each in it -/
def flat : Tree → Bool
  | must _ _ _ d => d.flat
  | shun _ _ _ d => d.flat
  | whn _ _ _ c d => c.flat && d.flat
  | both c d => c.flat && d.flat
  | next c d => c.flat && d.flat
  | again c => c.flat
  | till _ _ c => c.flat
  | each _ _ _ => false
  | _ => true
/-- how many clauses -/
def size : Tree → Nat
  | must _ _ _ d => 1 + d.size
  | shun _ _ _ d => 1 + d.size
  | whn _ _ _ c d => 1 + (c.size + d.size)
  | both c d => 1 + (c.size + d.size)
  | next c d => 1 + (c.size + d.size)
  | again c => 1 + c.size
  | till _ _ c => 1 + c.size
  | each _ _ c => 1 + c.size
  | _ => 1
def dep : Tree → Nat
  | must _ _ _ d => 1 + d.dep
  | shun _ _ _ d => 1 + d.dep
  | whn _ _ _ c d => 1 + max c.dep d.dep
  | both c d => 1 + max c.dep d.dep
  | next c d => 1 + max c.dep d.dep
  | again c => 1 + c.dep
  | till _ _ c => 1 + c.dep
  | each _ _ c => 1 + c.dep
  | _ => 1
/-- spans are not too great, a share has hands -/
def okS : Tree → Bool
  | must _ _ n d => decide (n ≤ 1000) && d.okS
  | shun _ _ n d => decide (n ≤ 1000) && d.okS
  | may _ _ n => decide (n ≤ 1000)
  | whn _ _ n c d => decide (n ≤ 1000) && (c.okS && d.okS)
  | both c d => c.okS && d.okS
  | next c d => c.okS && d.okS
  | again c => c.okS
  | till _ _ c => c.okS
  | each _ _ c => c.okS
  | share _ _ hs => decide (1 ≤ hs.length) && (decide (hs.length ≤ 1000) && hs.all nameS)
  | _ => true
/-- how many events at a moment, at most -/
def wt : Tree → Nat
  | must _ _ _ d => 1 + d.wt
  | shun _ _ _ d => 1 + d.wt
  | whn _ _ _ c d => 1 + (c.wt + d.wt)
  | both c d => c.wt + d.wt
  | next c d => c.wt + d.wt
  | again c => 2 * c.wt
  | till _ _ c => c.wt
  | each _ _ c => c.wt
  | share _ _ hs => hs.length
  | _ => 1
theorem isH (t : Tree) : t.w.isH = false := by cases t <;> rfl
end Tree
inductive Wd where
  | kept | broken | opn
  deriving DecidableEq, Inhabited
def Wd.s : Wd → Str
  | .kept => "kept"
  | .broken => "broken"
  | .opn => "open"
inductive Ev where
  | br (m n : Nat) (h a : Str)
  | fe (m n : Nat) (h t : Str) (s : Nat)
  deriving DecidableEq, Inhabited
def Ev.w : Ev → W
  | .br m n h a => .tup [.int (m : Int), .str "breach", .int (n : Int), .str h, .str a]
  | .fe m n h t s => .tup [.int (m : Int), .str "fee", .int (n : Int), .str h, .str t, .int (s : Int)]
def Ev.m : Ev → Nat
  | .br m _ _ _ => m
  | .fe m _ _ _ _ => m
/-- what is told of a clause -/
structure TD where
  e : Wd
  m : Nat
  st : List (Nat × Nat)
  ev : List Ev
  deriving Inhabited
def natW (n : Nat) : W := .int (n : Int)
def stW (p : Nat × Nat) : W := .tup [.int (p.1 : Int), .int (p.2 : Int)]
def TD.mw (t : TD) : W := match t.e with
  | .opn => .non
  | _ => .int (t.m : Int)
def TD.w (t : TD) : W := .obj "Told" ["ending", "moment", "standing", "happened"] [.str t.e.s, t.mw, .lst (t.st.map stW), .lst (t.ev.map Ev.w)]
def TD.behind (t : TD) (evs : List Ev) : TD := { t with ev := evs ++ t.ev }
abbrev Row := List (List Deed)
def dayV (l : List Deed) : W := .tup (l.map enc)
def rowV (ds : Row) : W := .lst (ds.map dayV)
/-- the first day behind b, to the last one, with a deed -/
def firstDay (ds : Row) (b last : Nat) (d : Deed) : Option Nat := (List.range' (b + 1) (min last ds.length - b)).find? fun i => decide (d ∈ ds.getD (i - 1) [])
def lastOf (ds : Row) (b n : Nat) : Nat := if n = 0 then ds.length else b + n
def overOf (ds : Row) (b n : Nat) : Option Nat := if n = 0 then none else if ds.length < b + n then none else some (b + n)
def leftOf (ds : Row) (b n : Nat) : Nat := if n = 0 then 0 else n + b - ds.length
def standing (ds : Row) (n b span : Nat) : TD := ⟨.opn, 0, [(n, leftOf ds b span)], []⟩
def againL (f : Nat → TD) : Nat → Nat → List Ev → TD
  | 0, b, evs => (f b).behind evs
  | k + 1, b, evs => if ((f b).behind evs).e ≠ .kept ∨ ((f b).behind evs).m = b then (f b).behind evs else againL f k ((f b).behind evs).m ((f b).behind evs).ev
def sharesOf (s k : Nat) : List Nat := (List.range k).map fun i => s / k + if i < s % k then 1 else 0
def bothOf (x y : TD) : TD :=
  if x.e = .broken ∨ y.e = .broken then
    let e := if x.e = .broken then (if y.e = .broken then min x.m y.m else x.m) else y.m
    ⟨.broken, e, [], (x.ev ++ y.ev).filter fun v => decide (v.m ≤ e)⟩
  else if x.e = .kept ∧ y.e = .kept then ⟨.kept, max x.m y.m, [], x.ev ++ y.ev⟩
  else ⟨.opn, 0, x.st ++ y.st, x.ev ++ y.ev⟩
/-- what is read of a clause: number n, begun at b, along a row -/
def rd : Tree → Nat → Nat → Row → TD
  | .kept, _, b, _ => ⟨.kept, b, [], []⟩
  | .broken, _, b, _ => ⟨.broken, b, [], []⟩
  | .must h a s d, n, b, ds => match firstDay ds b (lastOf ds b s) (h, a) with
    | some i => ⟨.kept, i, [], []⟩
    | none => match overOf ds b s with
      | some o => (rd d (n + 1) o ds).behind [.br o n h a]
      | none => standing ds n b s
  | .shun h a s d, n, b, ds => match firstDay ds b (lastOf ds b s) (h, a) with
    | some i => (rd d (n + 1) i ds).behind [.br i n h a]
    | none => match overOf ds b s with
      | some o => ⟨.kept, o, [], []⟩
      | none => standing ds n b s
  | .may h a s, n, b, ds => match overOf ds b s with
    | some o => ⟨.kept, o, [], []⟩
    | none => standing ds n b s
  | .whn h a s c d, n, b, ds => match firstDay ds b (lastOf ds b s) (h, a) with
    | some i => rd c (n + 1) i ds
    | none => match overOf ds b s with
      | some o => rd d (n + 1 + c.size) o ds
      | none => standing ds n b s
  | .both c d, n, b, ds => bothOf (rd c (n + 1) b ds) (rd d (n + 1 + c.size) b ds)
  | .next c d, n, b, ds => if (rd c (n + 1) b ds).e = .kept then (rd d (n + 1 + c.size) (rd c (n + 1) b ds).m ds).behind (rd c (n + 1) b ds).ev else rd c (n + 1) b ds
  | .again c, n, b, ds => againL (fun b => rd c (n + 1) b ds) ds.length b []
  | .till h a c, n, b, ds => match firstDay ds b ds.length (h, a) with
    | none => rd c (n + 1) b ds
    | some i => if (rd c (n + 1) b (ds.take i)).e = .opn then ⟨.kept, i, [], (rd c (n + 1) b (ds.take i)).ev⟩ else rd c (n + 1) b (ds.take i)
  | .fee s h t, n, b, _ => ⟨.kept, b, [], [.fe b n h t s]⟩
  | .share s h hs, n, b, _ => ⟨.kept, b, [], (hs.zip (sharesOf s hs.length)).map fun p => .fe b n h p.1 p.2⟩
  | .each _ _ _, _, b, _ => ⟨.kept, b, [], []⟩
/-! ### moments -/
theorem firstDay_some {ds : Row} {b last : Nat} {d : Deed} {i : Nat} (h : firstDay ds b last d = some i) : b < i ∧ i ≤ last ∧ i ≤ ds.length ∧ d ∈ ds.getD (i - 1) [] := by
  unfold firstDay at h
  have h1 := List.find?_some h
  have h2 := List.mem_of_find?_eq_some h
  rw [List.mem_range'_1] at h2
  exact ⟨by omega, by omega, by omega, by simpa using h1⟩
theorem overOf_some {ds : Row} {b n o : Nat} (h : overOf ds b n = some o) : n ≠ 0 ∧ o = b + n ∧ o ≤ ds.length := by
  unfold overOf at h
  split at h
  · cases h
  · split at h
    · cases h
    · cases h
      exact ⟨by assumption, rfl, by omega⟩
/-- when it ends it is behind its beginning, within the row -/
def TD.inB (t : TD) (b l : Nat) : Prop := (t.e ≠ .opn → b ≤ t.m ∧ t.m ≤ l) ∧ ∀ v ∈ t.ev, b ≤ v.m ∧ v.m ≤ l ∧ (t.e ≠ .opn → v.m ≤ t.m)
theorem TD.inB.behind {t : TD} {b b0 l : Nat} {evs : List Ev} (h : t.inB b l) (hb : b0 ≤ b) (he : ∀ v ∈ evs, b0 ≤ v.m ∧ v.m ≤ b ∧ v.m ≤ l) : (t.behind evs).inB b0 l := by
  refine ⟨fun z => ⟨Nat.le_trans hb (h.1 z).1, (h.1 z).2⟩, fun v hv => ?_⟩
  rcases List.mem_append.mp hv with hv | hv
  · exact ⟨(he v hv).1, (he v hv).2.2, fun z => Nat.le_trans (he v hv).2.1 (h.1 z).1⟩
  · exact ⟨Nat.le_trans hb (h.2 v hv).1, (h.2 v hv).2.1, (h.2 v hv).2.2⟩
theorem TD.inB.lower {t : TD} {b b0 l : Nat} (h : t.inB b l) (hb : b0 ≤ b) : t.inB b0 l :=
  ⟨fun z => ⟨Nat.le_trans hb (h.1 z).1, (h.1 z).2⟩, fun v hv => ⟨Nat.le_trans hb (h.2 v hv).1, (h.2 v hv).2.1, (h.2 v hv).2.2⟩⟩
theorem TD.inB.upper {t : TD} {b l l' : Nat} (h : t.inB b l) (hl : l ≤ l') : t.inB b l' :=
  ⟨fun z => ⟨(h.1 z).1, Nat.le_trans (h.1 z).2 hl⟩, fun v hv => ⟨(h.2 v hv).1, Nat.le_trans (h.2 v hv).2.1 hl, (h.2 v hv).2.2⟩⟩
theorem againL_in {f : Nat → TD} {l : Nat} (hf : ∀ b, b ≤ l → (f b).inB b l) : ∀ (k b b0 : Nat) (evs : List Ev), b ≤ l → b0 ≤ b → (∀ v ∈ evs, b0 ≤ v.m ∧ v.m ≤ b) → (againL f k b evs).inB b0 l
  | 0, b, b0, evs, hb, h0, he => (hf b hb).behind h0 fun v hv => ⟨(he v hv).1, (he v hv).2, Nat.le_trans (he v hv).2 hb⟩
  | k + 1, b, b0, evs, hb, h0, he => by
    have q := (hf b hb).behind h0 fun v hv => ⟨(he v hv).1, (he v hv).2, Nat.le_trans (he v hv).2 hb⟩
    have q1 := (hf b hb).behind (b0 := b) (evs := []) (Nat.le_refl _) (fun v hv => by cases hv)
    unfold againL
    split
    · exact q
    · rename_i c
      have c1 : ((f b).behind evs).e = .kept := by
        by_cases z : ((f b).behind evs).e = .kept
        · exact z
        · exact (c (.inl z)).elim
      have ne : ((f b).behind evs).e ≠ .opn := by rw [c1]; decide
      have hm : b ≤ ((f b).behind evs).m := (q1.1 (by rw [show ((f b).behind []).e = ((f b).behind evs).e from rfl]; exact ne)).1
      exact againL_in hf k _ b0 _ (q.1 ne).2 (Nat.le_trans h0 hm) fun v hv => ⟨(q.2 v hv).1, (q.2 v hv).2.2 ne⟩
theorem rd_in : ∀ (t : Tree) (n b : Nat) (ds : Row), b ≤ ds.length → (rd t n b ds).inB b ds.length
  | .kept, n, b, ds, hb => ⟨fun _ => ⟨Nat.le_refl _, hb⟩, fun v hv => by cases hv⟩
  | .broken, n, b, ds, hb => ⟨fun _ => ⟨Nat.le_refl _, hb⟩, fun v hv => by cases hv⟩
  | .must h a s d, n, b, ds, hb => by
    unfold rd
    split
    · rename_i i hi
      have q := firstDay_some hi
      exact ⟨fun _ => ⟨by show b ≤ i; omega, q.2.2.1⟩, fun v hv => by cases hv⟩
    · split
      · rename_i o ho
        have q := overOf_some ho
        exact (rd_in d (n + 1) o ds q.2.2).behind (by omega) fun v hv => by rw [List.mem_singleton.mp hv]; exact ⟨by show b ≤ o; omega, Nat.le_refl _, q.2.2⟩
      · exact ⟨fun z => (z rfl).elim, fun v hv => by cases hv⟩
  | .shun h a s d, n, b, ds, hb => by
    unfold rd
    split
    · rename_i i hi
      have q := firstDay_some hi
      exact (rd_in d (n + 1) i ds q.2.2.1).behind (by omega) fun v hv => by rw [List.mem_singleton.mp hv]; exact ⟨by show b ≤ i; omega, Nat.le_refl _, q.2.2.1⟩
    · split
      · rename_i o ho
        have q := overOf_some ho
        exact ⟨fun _ => ⟨by show b ≤ o; omega, q.2.2⟩, fun v hv => by cases hv⟩
      · exact ⟨fun z => (z rfl).elim, fun v hv => by cases hv⟩
  | .may h a s, n, b, ds, hb => by
    unfold rd
    split
    · rename_i o ho
      have q := overOf_some ho
      exact ⟨fun _ => ⟨by show b ≤ o; omega, q.2.2⟩, fun v hv => by cases hv⟩
    · exact ⟨fun z => (z rfl).elim, fun v hv => by cases hv⟩
  | .whn h a s c d, n, b, ds, hb => by
    unfold rd
    split
    · rename_i i hi
      have q := firstDay_some hi
      exact (rd_in c (n + 1) i ds q.2.2.1).lower (by omega)
    · split
      · rename_i o ho
        have q := overOf_some ho
        exact (rd_in d _ o ds q.2.2).lower (by omega)
      · exact ⟨fun z => (z rfl).elim, fun v hv => by cases hv⟩
  | .both c d, n, b, ds, hb => by
    have x := rd_in c (n + 1) b ds hb
    have y := rd_in d (n + 1 + c.size) b ds hb
    unfold rd bothOf
    split
    · rename_i z
      have key : ∀ e : Nat, (b ≤ e ∧ e ≤ ds.length) → TD.inB ⟨.broken, e, [], ((rd c (n + 1) b ds).ev ++ (rd d (n + 1 + c.size) b ds).ev).filter fun v => decide (v.m ≤ e)⟩ b ds.length := fun e he => by
        refine ⟨fun _ => he, fun v hv => ?_⟩
        obtain ⟨h1, h2⟩ := List.mem_filter.mp hv
        have h2 : v.m ≤ e := by simpa using h2
        rcases List.mem_append.mp h1 with h1 | h1
        · exact ⟨(x.2 v h1).1, (x.2 v h1).2.1, fun _ => h2⟩
        · exact ⟨(y.2 v h1).1, (y.2 v h1).2.1, fun _ => h2⟩
      refine key _ ?_
      have xb : (rd c (n + 1) b ds).e = .broken → b ≤ (rd c (n + 1) b ds).m ∧ (rd c (n + 1) b ds).m ≤ ds.length := fun e => x.1 (by rw [e]; decide)
      have yb : (rd d (n + 1 + c.size) b ds).e = .broken → b ≤ (rd d (n + 1 + c.size) b ds).m ∧ (rd d (n + 1 + c.size) b ds).m ≤ ds.length := fun e => y.1 (by rw [e]; decide)
      split
      · rename_i zx
        have := xb zx
        split
        · rename_i zy
          have := yb zy
          omega
        · exact this
      · rename_i zx
        exact yb (z.resolve_left zx)
    · split
      · rename_i z
        have xk := x.1 (by rw [z.1]; decide)
        have yk := y.1 (by rw [z.2]; decide)
        refine ⟨fun _ => by show b ≤ max _ _ ∧ max _ _ ≤ _; omega, fun v hv => ?_⟩
        rcases List.mem_append.mp hv with h1 | h1
        · have := (x.2 v h1).2.2 (by rw [z.1]; decide)
          exact ⟨(x.2 v h1).1, (x.2 v h1).2.1, fun _ => by show v.m ≤ max _ _; omega⟩
        · have := (y.2 v h1).2.2 (by rw [z.2]; decide)
          exact ⟨(y.2 v h1).1, (y.2 v h1).2.1, fun _ => by show v.m ≤ max _ _; omega⟩
      · refine ⟨fun z => (z rfl).elim, fun v hv => ?_⟩
        rcases List.mem_append.mp hv with h1 | h1
        · exact ⟨(x.2 v h1).1, (x.2 v h1).2.1, fun z => (z rfl).elim⟩
        · exact ⟨(y.2 v h1).1, (y.2 v h1).2.1, fun z => (z rfl).elim⟩
  | .next c d, n, b, ds, hb => by
    have x := rd_in c (n + 1) b ds hb
    unfold rd
    split
    · rename_i z
      have xk := x.1 (by rw [z]; decide)
      exact (rd_in d _ _ ds xk.2).behind xk.1 fun v hv => ⟨(x.2 v hv).1, (x.2 v hv).2.2 (by rw [z]; decide), (x.2 v hv).2.1⟩
    · exact x
  | .again c, n, b, ds, hb => by
    unfold rd
    exact againL_in (fun b hb => rd_in c (n + 1) b ds hb) _ b b [] hb (Nat.le_refl _) fun v hv => by cases hv
  | .till h a c, n, b, ds, hb => by
    unfold rd
    split
    · exact rd_in c (n + 1) b ds hb
    · rename_i i hi
      have q := firstDay_some hi
      have tl : (ds.take i).length = i := by rw [List.length_take]; omega
      have x := rd_in c (n + 1) b (ds.take i) (by omega)
      rw [tl] at x
      split
      · exact ⟨fun _ => ⟨by show b ≤ i; omega, q.2.2.1⟩, fun v hv => ⟨(x.2 v hv).1, by have := (x.2 v hv).2.1; omega, fun _ => (x.2 v hv).2.1⟩⟩
      · exact x.upper q.2.2.1
  | .fee s h t, n, b, ds, hb => ⟨fun _ => ⟨Nat.le_refl _, hb⟩, fun v hv => by
    rw [show v = .fe b n h t s from List.mem_singleton.mp hv]
    exact ⟨Nat.le_refl _, hb, fun _ => Nat.le_refl _⟩⟩
  | .share s h hs, n, b, ds, hb => ⟨fun _ => ⟨Nat.le_refl _, hb⟩, fun v hv => by
    obtain ⟨p, _, rfl⟩ := List.mem_map.mp hv
    exact ⟨Nat.le_refl _, hb, fun _ => Nat.le_refl _⟩⟩
  | .each _ _ _, n, b, ds, hb => ⟨fun _ => ⟨Nat.le_refl _, hb⟩, fun v hv => by cases hv⟩
end VM

set_option Elab.async false
set_option linter.all false
set_option maxRecDepth 10000
set_option maxHeartbeats 1000000
/-! LMtreeW: how many events, at most. -/
namespace VM
open PySem
open Enc (enc)
def cntTo (x : Nat) (evs : List Ev) : Nat := (evs.filter fun v => decide (v.m ≤ x)).length
theorem cntTo_app {x : Nat} {a b : List Ev} : cntTo x (a ++ b) = cntTo x a + cntTo x b := by
  unfold cntTo
  rw [List.filter_append, List.length_append]
theorem cntTo_none {x : Nat} {a : List Ev} (h : ∀ v ∈ a, x < v.m) : cntTo x a = 0 := by
  unfold cntTo
  rw [List.filter_eq_nil_iff.mpr fun v hv => by have := h v hv; simp; omega]
  rfl
theorem cntTo_all {x : Nat} {a : List Ev} (h : ∀ v ∈ a, v.m ≤ x) : cntTo x a = a.length := by
  unfold cntTo
  rw [List.filter_eq_self.mpr fun v hv => by have := h v hv; simp; omega]
theorem cntTo_le {x : Nat} {a : List Ev} : cntTo x a ≤ a.length := List.length_filter_le _ _
theorem cntTo_filter {x : Nat} {a : List Ev} {p : Ev → Bool} : cntTo x (a.filter p) ≤ cntTo x a := by
  unfold cntTo
  rw [List.filter_filter]
  have e : a.filter (fun v => decide (v.m ≤ x) && p v) = (a.filter fun v => decide (v.m ≤ x)).filter p := by
    rw [List.filter_filter]
    congr 1
    funext v
    exact Bool.and_comm _ _
  rw [e]
  exact List.length_filter_le _ _
theorem cntTo_mono {x y : Nat} (h : x ≤ y) {a : List Ev} : cntTo x a ≤ cntTo y a := by
  unfold cntTo
  have e : a.filter (fun v => decide (v.m ≤ x)) = (a.filter fun v => decide (v.m ≤ y)).filter fun v => decide (v.m ≤ x) := by
    rw [List.filter_filter]
    refine List.filter_congr fun v _ => ?_
    by_cases c : v.m ≤ x
    · have : v.m ≤ y := by omega
      simp [c, this]
    · simp [c]
  rw [e]
  exact List.length_filter_le _ _
/-- at most so many events by every moment -/
def TD.few (t : TD) (b k : Nat) : Prop := ∀ x, b ≤ x → cntTo x t.ev ≤ k * (x + 1 - b)
theorem againL_few {f : Nat → TD} {l w : Nat} (hf : ∀ b, b ≤ l → (f b).inB b l ∧ (f b).few b w) : ∀ (k b b0 x : Nat) (evs : List Ev), b ≤ l → b0 ≤ b → (∀ v ∈ evs, v.m ≤ b) → cntTo b evs ≤ 2 * w * (b - b0) → b ≤ x →
    cntTo x (againL f k b evs).ev ≤ 2 * w * (x + 1 - b0)
  | 0, b, b0, x, evs, hb, h0, hv, hc, hx => by
    show cntTo x (evs ++ (f b).ev) ≤ _
    rw [cntTo_app]
    have h1 := (hf b hb).2 x hx
    have h2 : cntTo x evs = cntTo b evs := by rw [cntTo_all hv, cntTo_all fun v z => Nat.le_trans (hv v z) hx]
    have e : x + 1 - b0 = (b - b0) + (x + 1 - b) := by omega
    rw [e, Nat.mul_add, h2, Nat.mul_assoc 2 w (x + 1 - b)]
    omega
  | k + 1, b, b0, x, evs, hb, h0, hv, hc, hx => by
    have base : cntTo x ((f b).behind evs).ev ≤ 2 * w * (x + 1 - b0) := by
      show cntTo x (evs ++ (f b).ev) ≤ _
      rw [cntTo_app]
      have h1 := (hf b hb).2 x hx
      have h2 : cntTo x evs = cntTo b evs := by rw [cntTo_all hv, cntTo_all fun v z => Nat.le_trans (hv v z) hx]
      have e : x + 1 - b0 = (b - b0) + (x + 1 - b) := by omega
      rw [e, Nat.mul_add, h2, Nat.mul_assoc 2 w (x + 1 - b)]
      omega
    unfold againL
    split
    · exact base
    · rename_i c
      have c1 : (f b).e = .kept := by
        by_cases z : (f b).e = .kept
        · exact z
        · exact (c (.inl z)).elim
      have c2 : (f b).m ≠ b := fun z => c (.inr z)
      have ne : (f b).e ≠ .opn := by rw [c1]; decide
      have q := (hf b hb).1
      have hm := q.1 ne
      have lt : b < (f b).m := by omega
      have hv2 : ∀ v ∈ ((f b).behind evs).ev, v.m ≤ (f b).m := fun v z => by
        rcases List.mem_append.mp z with z | z
        · have := hv v z; omega
        · exact (q.2 v z).2.2 ne
      have cc : cntTo (f b).m ((f b).behind evs).ev ≤ 2 * w * ((f b).m - b0) := by
        show cntTo _ (evs ++ (f b).ev) ≤ _
        rw [cntTo_app]
        have h1 := (hf b hb).2 (f b).m hm.1
        have h2 : cntTo (f b).m evs = cntTo b evs := by rw [cntTo_all hv, cntTo_all fun v z => Nat.le_trans (hv v z) hm.1]
        have e : (f b).m - b0 = (b - b0) + ((f b).m - b) := by omega
        have e2 : w * ((f b).m + 1 - b) ≤ 2 * w * ((f b).m - b) := by
          have : (f b).m + 1 - b ≤ 2 * ((f b).m - b) := by omega
          calc w * ((f b).m + 1 - b) ≤ w * (2 * ((f b).m - b)) := Nat.mul_le_mul_left _ this
            _ = 2 * w * ((f b).m - b) := by rw [← Nat.mul_assoc, Nat.mul_comm w 2]
        rw [e, Nat.mul_add, h2]
        omega
      by_cases hx2 : (f b).m ≤ x
      · exact againL_few hf k (f b).m b0 x _ hm.2 (by omega) hv2 cc hx2
      · -- what comes later does not count
        have later : ∀ (k b2 : Nat) (evs2 : List Ev), b2 ≤ l → x < b2 → cntTo x (againL f k b2 evs2).ev = cntTo x evs2 := by
          intro k
          induction k with
          | zero =>
            intro b2 evs2 hb2 hx3
            show cntTo x (evs2 ++ (f b2).ev) = _
            rw [cntTo_app, cntTo_none (a := (f b2).ev) fun v z => by have := ((hf b2 hb2).1.2 v z).1; omega]
            omega
          | succ k ih =>
            intro b2 evs2 hb2 hx3
            have e0 : cntTo x ((f b2).behind evs2).ev = cntTo x evs2 := by
              show cntTo x (evs2 ++ (f b2).ev) = _
              rw [cntTo_app, cntTo_none (a := (f b2).ev) fun v z => by have := ((hf b2 hb2).1.2 v z).1; omega]
              omega
            unfold againL
            split
            · exact e0
            · rename_i c3
              have ne3 : (f b2).e ≠ .opn := fun z => c3 (.inl (by rw [show ((f b2).behind evs2).e = (f b2).e from rfl, z]; decide))
              have h4 := (hf b2 hb2).1.1 ne3
              rw [ih ((f b2).behind evs2).m _ h4.2 (by show x < (f b2).m; omega), e0]
        rw [later k ((f b).behind evs).m _ hm.2 (by show x < (f b).m; omega)]
        exact base
theorem rd_few : ∀ (t : Tree) (n b : Nat) (ds : Row), b ≤ ds.length → (rd t n b ds).few b t.wt
  | .kept, n, b, ds, hb => fun x hx => Nat.zero_le _
  | .broken, n, b, ds, hb => fun x hx => Nat.zero_le _
  | .must h a s d, n, b, ds, hb => fun x hx => by
    unfold rd Tree.wt
    split
    · exact Nat.zero_le _
    · split
      · rename_i o ho
        have q := overOf_some ho
        have r := rd_in d (n + 1) o ds q.2.2
        show cntTo x ([.br o n h a] ++ (rd d (n + 1) o ds).ev) ≤ _
        rw [cntTo_app]
        have c1 : cntTo x [Ev.br o n h a] ≤ 1 := cntTo_le
        by_cases hx2 : o ≤ x
        · have := rd_few d (n + 1) o ds q.2.2 x hx2
          have e : d.wt * (x + 1 - o) ≤ d.wt * (x + 1 - b) := Nat.mul_le_mul_left _ (by omega)
          rw [Nat.add_mul]
          omega
        · have := cntTo_none (x := x) (a := (rd d (n + 1) o ds).ev) fun v z => by have := (r.2 v z).1; omega
          have c2 : cntTo x [Ev.br o n h a] = 0 := cntTo_none fun v z => by rw [List.mem_singleton.mp z]; show x < o; omega
          omega
      · exact Nat.zero_le _
  | .shun h a s d, n, b, ds, hb => fun x hx => by
    unfold rd Tree.wt
    split
    · rename_i o ho
      have q := firstDay_some ho
      have r := rd_in d (n + 1) o ds q.2.2.1
      show cntTo x ([.br o n h a] ++ (rd d (n + 1) o ds).ev) ≤ _
      rw [cntTo_app]
      have c1 : cntTo x [Ev.br o n h a] ≤ 1 := cntTo_le
      by_cases hx2 : o ≤ x
      · have := rd_few d (n + 1) o ds q.2.2.1 x hx2
        have e : d.wt * (x + 1 - o) ≤ d.wt * (x + 1 - b) := Nat.mul_le_mul_left _ (by omega)
        rw [Nat.add_mul]
        omega
      · have := cntTo_none (x := x) (a := (rd d (n + 1) o ds).ev) fun v z => by have := (r.2 v z).1; omega
        have c2 : cntTo x [Ev.br o n h a] = 0 := cntTo_none fun v z => by rw [List.mem_singleton.mp z]; show x < o; omega
        omega
    · split
      · exact Nat.zero_le _
      · exact Nat.zero_le _
  | .may h a s, n, b, ds, hb => fun x hx => by
    unfold rd
    split <;> exact Nat.zero_le _
  | .whn h a s c d, n, b, ds, hb => fun x hx => by
    have go : ∀ (t : Tree) (m o : Nat), t.wt ≤ 1 + (c.wt + d.wt) → b ≤ o → o ≤ ds.length → (rd t m o ds).few o t.wt → cntTo x (rd t m o ds).ev ≤ (1 + (c.wt + d.wt)) * (x + 1 - b) := fun t m o hw ho ho2 hf => by
      by_cases hx2 : o ≤ x
      · exact Nat.le_trans (hf x hx2) (Nat.mul_le_mul hw (by omega))
      · rw [cntTo_none (x := x) (a := (rd t m o ds).ev) fun v z => by have := ((rd_in t m o ds ho2).2 v z).1; omega]
        exact Nat.zero_le _
    unfold rd Tree.wt
    split
    · rename_i o ho
      have q := firstDay_some ho
      exact go c _ o (by omega) (by omega) q.2.2.1 (rd_few c _ o ds q.2.2.1)
    · split
      · rename_i o ho
        have q := overOf_some ho
        exact go d _ o (by omega) (by omega) q.2.2 (rd_few d _ o ds q.2.2)
      · exact Nat.zero_le _
  | .both c d, n, b, ds, hb => fun x hx => by
    have h1 := rd_few c (n + 1) b ds hb x hx
    have h2 := rd_few d (n + 1 + c.size) b ds hb x hx
    have e : cntTo x ((rd c (n + 1) b ds).ev ++ (rd d (n + 1 + c.size) b ds).ev) ≤ (c.wt + d.wt) * (x + 1 - b) := by
      rw [cntTo_app, Nat.add_mul]; omega
    unfold rd bothOf Tree.wt
    split
    · exact Nat.le_trans cntTo_filter e
    · split
      · exact e
      · exact e
  | .next c d, n, b, ds, hb => fun x hx => by
    have h1 := rd_few c (n + 1) b ds hb
    have r1 := rd_in c (n + 1) b ds hb
    unfold rd Tree.wt
    split
    · rename_i z
      have hm := r1.1 (by rw [z]; decide)
      show cntTo x ((rd c (n + 1) b ds).ev ++ (rd d (n + 1 + c.size) (rd c (n + 1) b ds).m ds).ev) ≤ _
      rw [cntTo_app, Nat.add_mul]
      have a1 := h1 x hx
      by_cases hx2 : (rd c (n + 1) b ds).m ≤ x
      · have a2 := rd_few d (n + 1 + c.size) _ ds hm.2 x hx2
        have e : d.wt * (x + 1 - (rd c (n + 1) b ds).m) ≤ d.wt * (x + 1 - b) := Nat.mul_le_mul_left _ (by omega)
        omega
      · have := cntTo_none (x := x) (a := (rd d (n + 1 + c.size) (rd c (n + 1) b ds).m ds).ev) fun v z => by have := ((rd_in d _ _ ds hm.2).2 v z).1; omega
        omega
    · have a1 := h1 x hx
      rw [Nat.add_mul]
      omega
  | .again c, n, b, ds, hb => fun x hx => by
    unfold rd Tree.wt
    exact againL_few (l := ds.length) (fun b hb => ⟨rd_in c (n + 1) b ds hb, rd_few c (n + 1) b ds hb⟩) _ b b x [] hb (Nat.le_refl _) (fun v hv => by cases hv) (Nat.zero_le _) hx
  | .till h a c, n, b, ds, hb => fun x hx => by
    unfold rd Tree.wt
    split
    · exact rd_few c (n + 1) b ds hb x hx
    · rename_i i hi
      have q := firstDay_some hi
      have tl : (ds.take i).length = i := by rw [List.length_take]; omega
      have r := rd_few c (n + 1) b (ds.take i) (by omega) x hx
      split
      · exact r
      · exact r
  | .fee s h t, n, b, ds, hb => fun x hx => by
    refine Nat.le_trans cntTo_le ?_
    show 1 ≤ 1 * (x + 1 - b)
    omega
  | .share s h hs, n, b, ds, hb => fun x hx => by
    refine Nat.le_trans cntTo_le ?_
    unfold rd Tree.wt
    rw [List.length_map, List.length_zip]
    have : hs.length * 1 ≤ hs.length * (x + 1 - b) := Nat.mul_le_mul_left _ (by omega)
    omega
  | .each _ _ _, n, b, ds, hb => fun x hx => Nat.zero_le _
theorem rd_ev {t : Tree} {n b : Nat} {ds : Row} (hb : b ≤ ds.length) : (rd t n b ds).ev.length ≤ t.wt * (ds.length + 1) := by
  have h := rd_few t n b ds hb ds.length hb
  rw [cntTo_all fun v hv => ((rd_in t n b ds hb).2 v hv).2.1] at h
  exact Nat.le_trans h (Nat.mul_le_mul_left _ (by omega))
theorem againL_st {f : Nat → TD} {l w : Nat} (hf : ∀ b, (f b).st.length ≤ w) : ∀ (k b : Nat) (evs : List Ev), (againL f k b evs).st.length ≤ w
  | 0, b, evs => hf b
  | k + 1, b, evs => by
    unfold againL
    split
    · exact hf b
    · exact againL_st (l := l) hf k _ _
theorem rd_st : ∀ (t : Tree) (n b : Nat) (ds : Row), (rd t n b ds).st.length ≤ t.size
  | .kept, n, b, ds => Nat.zero_le _
  | .broken, n, b, ds => Nat.zero_le _
  | .must h a s d, n, b, ds => by
    have := fun m o => rd_st d m o ds
    unfold rd Tree.size
    split
    · exact Nat.zero_le _
    · split
      · exact Nat.le_trans (this _ _) (by omega)
      · show 1 ≤ _; omega
  | .shun h a s d, n, b, ds => by
    have := fun m o => rd_st d m o ds
    unfold rd Tree.size
    split
    · exact Nat.le_trans (this _ _) (by omega)
    · split
      · exact Nat.zero_le _
      · show 1 ≤ _; omega
  | .may h a s, n, b, ds => by
    unfold rd
    split
    · exact Nat.zero_le _
    · exact Nat.le_refl _
  | .whn h a s c d, n, b, ds => by
    have h1 := fun m o => rd_st c m o ds
    have h2 := fun m o => rd_st d m o ds
    show (rd (.whn h a s c d) n b ds).st.length ≤ 1 + (c.size + d.size)
    unfold rd
    split
    · exact Nat.le_trans (h1 _ _) (by omega)
    · split
      · exact Nat.le_trans (h2 _ _) (by omega)
      · show 1 ≤ _; omega
  | .both c d, n, b, ds => by
    have h1 := rd_st c (n + 1) b ds
    have h2 := rd_st d (n + 1 + c.size) b ds
    show (rd (.both c d) n b ds).st.length ≤ 1 + (c.size + d.size)
    unfold rd bothOf
    split
    · exact Nat.zero_le _
    · split
      · exact Nat.zero_le _
      · show ((rd c (n + 1) b ds).st ++ (rd d (n + 1 + c.size) b ds).st).length ≤ _
        rw [List.length_append]; omega
  | .next c d, n, b, ds => by
    have h1 := rd_st c (n + 1) b ds
    have h2 := fun m o => rd_st d m o ds
    show (rd (.next c d) n b ds).st.length ≤ 1 + (c.size + d.size)
    unfold rd
    split
    · exact Nat.le_trans (h2 _ _) (by omega)
    · omega
  | .again c, n, b, ds => by
    unfold rd Tree.size
    exact Nat.le_trans (againL_st (l := 0) (fun b => rd_st c (n + 1) b ds) _ _ _) (by omega)
  | .till h a c, n, b, ds => by
    have h1 := fun ds => rd_st c (n + 1) b ds
    unfold rd Tree.size
    split
    · exact Nat.le_trans (h1 _) (by omega)
    · split
      · exact Nat.zero_le _
      · exact Nat.le_trans (h1 _) (by omega)
  | .fee s h t, n, b, ds => Nat.zero_le _
  | .share s h hs, n, b, ds => Nat.zero_le _
  | .each _ _ _, n, b, ds => Nat.zero_le _
end VM

set_option Elab.async false
set_option linter.all false
set_option maxRecDepth 10000
set_option maxHeartbeats 1000000
/-! LMkeys: pairs and events in their order. -/
namespace VM
open PySem
open PySem.W (alike alikeAll dataLt keyToks)
open Enc (enc)
open Key (dD)
theorem castE (a b : Nat) : ((a : Int) = (b : Int)) = (a = b) := propext (by omega)
instance : Enc Nat := ⟨fun n => .int (n : Int), 0, fun _ => datN_int, fun a b => by simp [eqW, W.toD, PyData.eqv, castE]⟩
theorem stW_enc : (enc : Nat × Nat → W) = stW := rfl
def dPair (p : Nat × Nat) : PyData := .tuple [.int (p.1 : Int), .int (p.2 : Int)]
instance : Key (Nat × Nat) where
  dD := dPair
  hd p := by simp [enc, W.toD, W.toDs, dPair]
  al _ _ := by simp [alike, alikeAll, dPair]
  dp _ := by simp [PyData.depth, PyData.depthAll, dPair]
  ky := .inl fun p => by simp [isTupK, dPair, nkD, nkDs, NestedKey.depth, NestedKey.depthAll]
  so l := by unfold sortableB; rw [Bool.or_eq_true]; exact .inl (by simp [List.all_map, Function.comp_def, dPair])
  dinj a b h := by
    unfold dPair at h
    injection h with h
    injection h with h1 h2
    injection h1 with h1
    injection h2 with h2 _
    injection h2 with h2
    exact Prod.ext (by omega) (by omega)
def dEv : Ev → PyData
  | .br m n h a => .tuple [.int (m : Int), .str "breach", .int (n : Int), .str h, .str a]
  | .fe m n h t s => .tuple [.int (m : Int), .str "fee", .int (n : Int), .str h, .str t, .int (s : Int)]
theorem ev_toD (v : Ev) : v.w.toD = some (dEv v) := by cases v <;> simp [Ev.w, W.toD, W.toDs, dEv]
theorem dEv_inj {a b : Ev} (h : dEv a = dEv b) : a = b := by
  cases a <;> cases b <;> unfold dEv at h <;> simp [castE] at h
  · obtain ⟨h1, h2, h3, h4⟩ := h
    subst h1 h2 h3 h4
    rfl
  · obtain ⟨h1, h2, h3, h4, h5⟩ := h
    subst h1 h2 h3 h4 h5
    rfl
theorem dEv_dep (v : Ev) : (dEv v).depth = 1 := by cases v <;> simp [dEv, PyData.depth, PyData.depthAll]
theorem ev_eqv (a b : Ev) : eqW a.w b.w = true ↔ a = b := by
  unfold eqW
  rw [ev_toD, ev_toD]
  show PyData.eqv (dEv a) (dEv b) = true ↔ _
  cases a <;> cases b
  · simp [dEv, PyData.eqv, PyData.eqvAll, castE]
  · simp only [dEv, PyData.eqv, PyData.eqvAll, Bool.and_eq_true, reduceCtorEq, iff_false, not_and]
    simp
  · simp only [dEv, PyData.eqv, PyData.eqvAll, Bool.and_eq_true, reduceCtorEq, iff_false, not_and]
    simp
  · simp [dEv, PyData.eqv, PyData.eqvAll, castE]
instance : Enc Ev := ⟨Ev.w, 1, fun v => ⟨dEv v, ev_toD v, by rw [dEv_dep]; exact Nat.le_refl _⟩, ev_eqv⟩
theorem evW_enc : (enc : Ev → W) = Ev.w := rfl
instance : Key Ev where
  dD := dEv
  hd v := ev_toD v
  al a b := by cases a <;> cases b <;> simp [alike, alikeAll, dEv]
  dp v := by rw [dEv_dep]; decide
  ky := .inl fun v => by cases v <;> simp [isTupK, dEv, nkD, nkDs, NestedKey.depth, NestedKey.depthAll]
  so l := by
    unfold sortableB
    rw [Bool.or_eq_true]
    refine .inl (List.all_eq_true.mpr fun d hd => ?_)
    obtain ⟨v, _, rfl⟩ := List.mem_map.mp hd
    cases v <;> rfl
  dinj _ _ h := dEv_inj h
theorem fSortA_key {α : Type} [Key α] (l : List α) (h : ∀ (a : α) (r : List α), fSorted (.lst (enc a :: r.map enc)) = none) : fSortA (.lst (l.map enc)) = some (.own (.lst ((sortK l).map enc))) := by
  unfold fSortA
  cases l with
  | nil => kernel_rfl
  | cons a r =>
    rw [List.map_cons, h a r]
    exact fSortD_key (a :: r)
theorem fSortT_key {α : Type} [Key α] (l : List α) : fSortA (.tup (l.map enc)) = some (.own (.lst ((sortK l).map enc))) := by
  have := fSortD_key l
  have : fSortT (.tup (l.map enc)) = some (.own (.lst ((sortK l).map enc))) := this
  unfold fSortA
  show (match fSortT (.tup (l.map enc)) with
    | some r => some r
    | none => fSortD (.tup (l.map enc))) = _
  rw [this]
theorem sort_st (l : List (Nat × Nat)) : fSortA (.lst (l.map stW)) = some (.own (.lst ((sortK l).map stW))) := fSortA_key (α := Nat × Nat) l fun _ _ => rfl
theorem sort_ev (l : List Ev) : fSortA (.lst (l.map Ev.w)) = some (.own (.lst ((sortK l).map Ev.w))) := fSortA_key (α := Ev) l fun a _ => by cases a <;> rfl
/-- sorted: one order of the same things is told -/
def leK {α : Type} [Key α] (a b : α) : Prop := dataLt (dD b) (dD a) = false
theorem sortK_srt {α : Type} [Key α] (l : List α) : (sortK l).Pairwise leK := by
  unfold sortK
  rw [List.pairwise_map]
  refine (bySort_srt (l.map fun a => (a, dD a))).imp_of_mem fun {p q} hp hq h => ?_
  obtain ⟨a, _, ea⟩ := List.mem_map.mp ((bySort_perm _).mem_iff.mp hp)
  obtain ⟨b, _, eb⟩ := List.mem_map.mp ((bySort_perm _).mem_iff.mp hq)
  subst ea
  subst eb
  exact h
theorem leK_anti {α : Type} [Key α] {a b : α} (h : leK a b) (g : leK b a) : a = b := Key.dinj _ _ (data_tot (Key.al _ _) g h)
theorem sorted_unique {α : Type} [Key α] : ∀ {l m : List α}, l.Perm m → l.Pairwise leK → m.Pairwise leK → l = m
  | [], m, p, _, _ => (List.Perm.nil_eq p)
  | a :: l, m, p, hl, hm => by
    cases m with
    | nil => exact (List.Perm.eq_nil p)
    | cons b m =>
      have ab : a = b := by
        rcases List.mem_cons.mp (p.mem_iff.mp List.mem_cons_self) with h | h
        · exact h
        · rcases List.mem_cons.mp (p.mem_iff.mpr List.mem_cons_self) with h2 | h2
          · exact h2.symm
          · exact leK_anti ((List.pairwise_cons.mp hl).1 b h2) ((List.pairwise_cons.mp hm).1 a h)
      subst ab
      rw [sorted_unique (List.Perm.cons_inv p) (List.pairwise_cons.mp hl).2 (List.pairwise_cons.mp hm).2]
theorem sortK_perm_eq {α : Type} [Key α] {l m : List α} (p : l.Perm m) : sortK l = sortK m :=
  sorted_unique ((sortK_perm l).trans (p.trans (sortK_perm m).symm)) (sortK_srt l) (sortK_srt m)
theorem sortK_id {α : Type} [Key α] {l : List α} (h : l.Pairwise leK) : sortK l = l := sorted_unique (sortK_perm l) (sortK_srt l) h
end VM

set_option Elab.async false
set_option linter.all false
set_option maxRecDepth 10000
set_option maxHeartbeats 2000000
/-! K04L: texts near days, read by the program and by the law. -/
namespace VM
open PySem
open Enc (enc)
open Key (dD)
def isDeedL : List Str → Bool
  | [a, b] => nameS a && nameS b
  | _ => false
def toDeed : List Str → Deed
  | [a, b] => (a, b)
  | _ => ("", "")
def partsT (x : Str) : List (List Str) := ((splitL 44 x.cps.toList).map sgn).map wordsT
/-- the day that a text tells -/
def readP (x : Str) : Option (List Deed) := if wordsT x = ([("-" : Str)] : List Str) then some [] else if ((partsT x).all isDeedL) = true then (if (sortSet ((partsT x).map toDeed)).length ≤ 8 then some (sortSet ((partsT x).map toDeed)) else none) else none
theorem partsW_T (x : Str) : partsW x = (partsT x).map fun ws => W.tup (ws.map .str) := by
  unfold partsW partsT
  simp only [List.map_map]
  rfl
theorem deedW_L (ws : List Str) : deedW (.tup (ws.map .str)) = isDeedL ws := by
  match ws with
  | [] => rfl
  | [_] => rfl
  | [a, b] => rfl
  | _ :: _ :: _ :: _ => rfl
theorem isDeed_to {ws : List Str} (h : isDeedL ws = true) : okDeed (toDeed ws) ∧ W.tup (ws.map .str) = enc (toDeed ws) ∧ ws = [(toDeed ws).1, (toDeed ws).2] := by
  match ws, h with
  | [a, b], h =>
    have h : (nameS a && nameS b) = true := h
    rw [Bool.and_eq_true] at h
    exact ⟨h, rfl, rfl⟩
theorem parts_deeds {x : Str} (h : ((partsT x).all isDeedL) = true) : partsW x = ((partsT x).map toDeed).map enc ∧ ∀ p ∈ (partsT x).map toDeed, okDeed p := by
  rw [partsW_T, List.map_map]
  refine ⟨List.map_congr_left fun ws hw => (isDeed_to (List.all_eq_true.mp h ws hw)).2.1, fun p hp => ?_⟩
  obtain ⟨ws, hw, rfl⟩ := List.mem_map.mp hp
  exact (isDeed_to (List.all_eq_true.mp h ws hw)).1
theorem parts_odd {x : Str} (h : ((partsT x).all isDeedL) = false) : ((partsW x).all deedW) = false := by
  rw [partsW_T, List.all_map]
  have e : (deedW ∘ fun ws : List Str => W.tup (ws.map .str)) = isDeedL := funext deedW_L
  rw [e]; exact h
theorem strs_deep {l : List Str} : (W.tup (l.map .str)).deepK := ⟨rfl, fun xs h x hx => by
  cases h
  obtain ⟨y, _, rfl⟩ := List.mem_map.mp hx
  rfl⟩
/-- a text of few parts -/
structure Tx (x : Str) : Prop where
  ok : okX x
  few : (partsT x).length < 64
def dayW0 (d : Option (List Deed)) : Option W := d.map fun l => .tup (l.map enc)
section
variable [Sys] [IsB] {k : Nat} {S : Store}
theorem read_day_eq [R_kept_words] [R_is_name] [R_is_deed] [R_day_of] [R_words_of_days] [R_read_day] {x : Str} (h : Tx x) : CC (k + 5) "read_day" [.str x] S = match readP x with
    | some l => .ok (.val (.tup (l.map enc))) S
    | none => .ex "NoDay" S := by
  have q := read_day_ok (k := k + 3) (S := S) h.ok
  rw [q]
  unfold readP
  by_cases c : wordsT x = ([("-" : Str)] : List Str)
  · rw [if_pos c, if_pos c] <;> rfl
  · rw [if_neg c, if_neg c]
    cases ha : ((partsT x).all isDeedL) with
    | true =>
      rw [if_pos rfl]
      obtain ⟨e, ok⟩ := parts_deeds ha
      have d := day_of_deeds (k := k) (S := S) ok (by rw [List.length_map]; exact h.few) (w := .lst (partsW x)) (.inl (by rw [e]))
      rw [d]
      by_cases c8 : (sortSet ((partsT x).map toDeed)).length ≤ 8
      · rw [if_pos c8, if_pos c8] <;> rfl
      · rw [if_neg c8, if_neg c8] <;> rfl
    | false =>
      rw [if_neg (by simp)]
      have d := day_of_odd (k := k) (S := S) (xs := partsW x) (w := .lst (partsW x)) (.inl rfl) (fun y hy => by
        rw [partsW_T] at hy
        obtain ⟨ws, _, rfl⟩ := List.mem_map.mp hy
        exact strs_deep) (line_le (by
        have := h.few
        rw [partsW_T, List.length_map]; omega)) (parts_odd ha)
      rw [d]
theorem lwords_ok [R__law_words] {x : Str} (h : okX x) : CC (k + 1) "_law_words" [.str x] S = .ok (.own (.lst ((wordsT x).map .str))) S := by
  rw [R__law_words.run__law_words]
  have sp := split_sp h
  have many := parts_many h 32
  have hc := dLc_fm1 (di := iSeq (dMeth "str" pSplit (dPeek 0) (dCons (dConst (.str " ")) dNil))) (i := 1) (tt := dCmpT (opCmp .NotEq) (dPeek 1) (dConst (.str ""))) (te := dVar 1) (fun w => match w with | .str y => !decide (y = "") | _ => false) id (ws := ((splitL 32 x.cps.toList).map sgn).map .str) (x := .val (.lst (((splitL 32 x.cps.toList).map sgn).map .str))) (τ := [.val (.str x), .no]) (S := S) (by simp) rfl rfl
    (by simp [-List.map_map, dPeek_eq, sp]) (fun w hw => by
      obtain ⟨y, _, rfl⟩ := List.mem_map.mp hw
      have e : opCmp .NotEq (.str y) (.str "") = some (!decide (y = "")) := opNe_enc (α := Str) (by decide)
      simp [dPeek_eq, e]) (fun w hw _ => by
      obtain ⟨y, _, rfl⟩ := List.mem_map.mp hw
      simp [dVar_eq]) (by rw [List.length_map]; exact line_le (by omega))
  have e : ((((splitL 32 x.cps.toList).map sgn).map W.str).filter (fun w => match w with | .str y => !decide (y = "") | _ => false)).map id = (wordsT x).map .str := by
    rw [List.map_id, List.filter_map] <;> rfl
  rw [e] at hc
  simp [b__law_words, hc]
theorem lname_ok [R__law_is_name] {x : Str} : CC (k + 1) "_law_is_name" [.str x] S = .ok (.val (.bl (nameS x))) S := by
  rw [R__law_is_name.run__law_is_name]
  have ki : opCmp .In (.str x) (.lst (keptL.map .str)) = some (decide (x ∈ keptL)) := isIn_kept
  by_cases h1 : (1 : Int) ≤ (x.length : Int)
  · by_cases h2 : (x.length : Int) ≤ 8
    · by_cases hk : x ∈ keptL
      · simp [b__law_is_name, dPeek_eq, h1, h2, pSplit_kept, ki, hk, nameS]
      · have hc := dLc_m1 (di := iSeqP (dPeek 0)) (i := 2) (te := dCmp (opCmp .In) (dPeek 2) (dConst (.str "abcdefghijklmnopqrstuvwxyz"))) (fun w => W.bl (match w with | .str y => smallX y | _ => false)) (ws := signs x) (x := .val (.str x)) (τ := [.val (.str x), .val (.str "kept broken must shun may when both next again till fee share each in for ever then else"), .no]) (S := S) (by simp) rfl rfl (by simp [dPeek_eq]; rfl) (fun w hw => by
          unfold signs at hw
          obtain ⟨c, _, rfl⟩ := List.mem_map.mp hw
          simp [dPeek_eq, isIn_str, smallX]) (by
          unfold signs
          rw [List.length_map, Array.length_toList]
          exact line_le (by have : x.cps.size = x.length := rfl; omega))
        have e : (signs x).map (fun w => W.bl (match w with | .str y => smallX y | _ => false)) = x.cps.toList.map fun c => W.bl (smallX ⟨#[c]⟩) := by
          unfold signs
          rw [List.map_map]; rfl
        rw [e] at hc
        simp [b__law_is_name, dPeek_eq, h1, h2, pSplit_kept, ki, hk, nameS, hc, all_bls]
    · simp [b__law_is_name, dPeek_eq, h1, h2, nameS]
  · simp [b__law_is_name, dPeek_eq, h1, nameS]
end
end VM

set_option Elab.async false
set_option linter.all false
set_option maxRecDepth 10000
set_option maxHeartbeats 2000000
/-! LMname: the names that a law draws are unlike. -/
namespace VM
open PySem
open Enc (enc)
def ltrI (j : Int) : Str := match fIx (.str "abcdefghijklmnopqrstuvwxyz") (.int j) with
  | some (.val (.str x)) => x
  | _ => ""
section
variable [Sys] [IsB]
theorem ltrI_ok {j : Int} (h0 : 0 ≤ j) (h1 : j < 26) : fIx (.str "abcdefghijklmnopqrstuvwxyz") (.int j) = some (.val (.str (ltrI j))) ∧ (ltrI j).length = 1 ∧ SmS (ltrI j) := by
  obtain ⟨x, e, l, s⟩ := letter h0 h1
  have : ltrI j = x := by unfold ltrI; rw [e]
  rw [this]
  exact ⟨e, l, s⟩
theorem ltrI_inj0 : ∀ i j : Fin 26, ltrI ((i.val : Nat) : Int) = ltrI ((j.val : Nat) : Int) → i = j := by decide +kernel
theorem ltrI_inj {i j : Int} (h0 : 0 ≤ i) (h1 : i < 26) (g0 : 0 ≤ j) (g1 : j < 26) (h : ltrI i = ltrI j) : i = j := by
  have := ltrI_inj0 ⟨i.toNat, by omega⟩ ⟨j.toNat, by omega⟩
  dsimp only at this
  rw [Int.toNat_of_nonneg h0, Int.toNat_of_nonneg g0] at this
  have := congrArg Fin.val (this h)
  dsimp only at this
  omega
theorem str_ext {a b : Str} (h : a.cps.toList = b.cps.toList) : a = b := by
  cases a; cases b
  have := Array.toList_inj.mp h
  dsimp only at this
  rw [this]
theorem app_cps (a b : Str) : (a ++ b).cps.toList = a.cps.toList ++ b.cps.toList := by
  rw [show (a ++ b).cps = a.cps ++ b.cps from rfl, Array.toList_append]
theorem app_inj {a b c d : Str} (h : a ++ b = c ++ d) (l : b.length = d.length) : a = c ∧ b = d := by
  have e := congrArg (fun x : Str => x.cps.toList) h
  have e : (a ++ b).cps.toList = (c ++ d).cps.toList := e
  rw [app_cps, app_cps] at e
  have l2 : b.cps.toList.length = d.cps.toList.length := l
  obtain ⟨h1, h2⟩ := List.append_inj' e l2
  exact ⟨str_ext h1, str_ext h2⟩
def ltrAt (sh kk pl t : Int) : Str := ltrI (if t = pl then (sh / 224 + kk) % 26 else (sh / 7 + t * (1 + sh % 5)) % 26)
theorem ltrAt_ok {sh kk pl t : Int} : (ltrAt sh kk pl t).length = 1 ∧ SmS (ltrAt sh kk pl t) := by
  unfold ltrAt
  split
  · exact (ltrI_ok (Int.emod_nonneg _ (by decide)) (Int.emod_lt_of_pos _ (by decide))).2
  · exact (ltrI_ok (Int.emod_nonneg _ (by decide)) (Int.emod_lt_of_pos _ (by decide))).2
def nmF (sh kk pl : Int) : List Int → Str → Str
  | [], nm => nm
  | t :: r, nm => nmF sh kk pl r (nm ++ ltrAt sh kk pl t)
theorem nmF_len {sh kk pl : Int} : ∀ (ws : List Int) (nm : Str), (nmF sh kk pl ws nm).length = nm.length + ws.length
  | [], nm => rfl
  | t :: r, nm => by
    show (nmF sh kk pl r (nm ++ ltrAt sh kk pl t)).length = _
    rw [nmF_len r, Str.length_append, ltrAt_ok.1, List.length_cons]; omega
theorem nmF_sm {sh kk pl : Int} : ∀ (ws : List Int) (nm : Str), SmS nm → SmS (nmF sh kk pl ws nm)
  | [], nm, h => h
  | t :: r, nm, h => nmF_sm r _ (h.append ltrAt_ok.2)
theorem nmF_ne {sh a b pl : Int} (ha : 0 ≤ a) (ha8 : a < 8) (hb : 0 ≤ b) (hb8 : b < 8) (ne : a ≠ b) : ∀ (ws : List Int) (x y : Str), (x ≠ y ∨ pl ∈ ws) → nmF sh a pl ws x ≠ nmF sh b pl ws y
  | [], x, y, h => h.elim id fun z => by cases z
  | t :: r, x, y, h => by
    refine nmF_ne ha ha8 hb hb8 ne r _ _ ?_
    have l : (ltrAt sh a pl t).length = (ltrAt sh b pl t).length := by rw [ltrAt_ok.1, ltrAt_ok.1]
    rcases h with h | h
    · exact .inl fun z => h (app_inj z l).1
    · rcases List.mem_cons.mp h with h | h
      · refine .inl fun z => ?_
        have e := (app_inj z l).2
        unfold ltrAt at e
        rw [if_pos h.symm, if_pos h.symm] at e
        have := ltrI_inj (Int.emod_nonneg _ (by decide)) (Int.emod_lt_of_pos _ (by decide)) (Int.emod_nonneg _ (by decide)) (Int.emod_lt_of_pos _ (by decide)) e
        generalize sh / 224 = q at this
        omega
      · exact .inr h
def nmLen (sh : Int) : Int := sh / 4 % 7 + 1 + sh / 28 % (8 - sh / 4 % 7)
def intsTo (n : Nat) : List Int := (List.range n).map fun (i : Nat) => ((0 : Int) + i)
def nmB (sh kk : Int) : Str := nmF sh kk (sh / 4 % 7) (intsTo (nmLen sh).toNat) ""
def nameBy (sh kk : Int) : Str := if sh % 4 = 0 ∧ kk < 8 then strRep (ltrI (sh / 4 % 26)) (1 + kk).toNat else if nmB sh kk ∈ keptL then nmB sh kk ++ "x" else nmB sh kk
theorem nmLen_b {sh : Int} (h : 0 ≤ sh) : 0 ≤ sh / 4 % 7 ∧ sh / 4 % 7 ≤ 6 ∧ sh / 4 % 7 < nmLen sh ∧ nmLen sh ≤ 8 := by
  unfold nmLen
  generalize hpl : sh / 4 % 7 = pl
  have p0 : 0 ≤ pl := by omega
  have p6 : pl ≤ 6 := by omega
  have r0 : 0 ≤ sh / 28 % (8 - pl) := Int.emod_nonneg _ (by omega)
  have r1 : sh / 28 % (8 - pl) < 8 - pl := Int.emod_lt_of_pos _ (by omega)
  exact ⟨p0, p6, by omega, by omega⟩
theorem nmB_len {sh kk : Int} : (nmB sh kk).length = (nmLen sh).toNat := by
  unfold nmB intsTo
  rw [nmF_len, List.length_map, List.length_range]
  show 0 + _ = _
  omega
theorem nmB_ne {sh a b : Int} (h : 0 ≤ sh) (ha : 0 ≤ a) (ha8 : a < 8) (hb : 0 ≤ b) (hb8 : b < 8) (ne : a ≠ b) : nmB sh a ≠ nmB sh b := by
  obtain ⟨p0, p6, p1, p2⟩ := nmLen_b h
  refine nmF_ne ha ha8 hb hb8 ne _ _ _ (.inr (List.mem_map.mpr ⟨(sh / 4 % 7).toNat, List.mem_range.mpr (by omega), by omega⟩))
theorem nameBy_inj {sh a b : Int} (h : 0 ≤ sh) (ha : 0 ≤ a) (ha8 : a < 8) (hb : 0 ≤ b) (hb8 : b < 8) (ne : a ≠ b) : nameBy sh a ≠ nameBy sh b := by
  unfold nameBy
  by_cases c : sh % 4 = 0
  · rw [if_pos ⟨c, ha8⟩, if_pos ⟨c, hb8⟩]
    intro z
    have := congrArg Str.length z
    have l := (ltrI_ok (j := sh / 4 % 26) (Int.emod_nonneg _ (by decide)) (Int.emod_lt_of_pos _ (by decide))).2.1
    rw [rep_len, rep_len, l] at this
    omega
  · have ca : ¬ (sh % 4 = 0 ∧ a < 8) := fun z => c z.1
    have cb : ¬ (sh % 4 = 0 ∧ b < 8) := fun z => c z.1
    rw [if_neg ca, if_neg cb]
    have n := nmB_ne h ha ha8 hb hb8 ne
    have l : (nmB sh a).length = (nmB sh b).length := by rw [nmB_len, nmB_len]
    split <;> split
    · exact fun z => n (app_inj z rfl).1
    · intro z
      have := congrArg Str.length z
      rw [Str.length_append, l] at this
      have t : Str.length "x" = 1 := rfl
      omega
    · intro z
      have := congrArg Str.length z
      rw [Str.length_append, l] at this
      have t : Str.length "x" = 1 := rfl
      omega
    · exact n
end
section
variable [Sys] [IsB] {k : Nat} {S : Store} {F : Str → CF}
theorem name_stepX (sh kk pl : Int) (name : Str) (t : Int) (s6 : Sl) (hsh : 0 ≤ sh) (hk : 0 ≤ kk) (ht : 0 ≤ t) (ht2 : t < 100) (hn : name.length ≤ 100) :
    l__law_name_by_0 F [.val (.int sh), .val (.int kk), .val (.str "abcdefghijklmnopqrstuvwxyz"), .val (.int pl), .val (.str name), .val (.int t), s6] S = .nx [.val (.int sh), .val (.int kk), .val (.str "abcdefghijklmnopqrstuvwxyz"), .val (.int pl), .val (.str (name ++ ltrAt sh kk pl t)), .val (.int t), s6] S := by
  have ad : ∀ x : Str, x.length = 1 → opAdd (.str name) (.str x) = some (.val (.str (name ++ x))) := fun x hx => if_pos (by rw [hx]; show _ ≤ 4194304; omega)
  unfold ltrAt
  by_cases c : t = pl
  · obtain ⟨h1, h2, h3⟩ := ltrI_ok (j := (sh / 224 + kk) % 26) (Int.emod_nonneg _ (by decide)) (Int.emod_lt_of_pos _ (by decide))
    rw [if_pos c]
    simp [l__law_name_by_0, dPeek_eq, c, h1, ad _ h2]
  · obtain ⟨h1, h2, h3⟩ := ltrI_ok (j := (sh / 7 + t * (1 + sh % 5)) % 26) (Int.emod_nonneg _ (by decide)) (Int.emod_lt_of_pos _ (by decide))
    rw [if_neg c]
    have c2 : (t == pl) = false := by simpa using c
    simp [l__law_name_by_0, dPeek_eq, c2, h1, ad _ h2, opMul_l, ht, show t < 2147483648 by omega]
theorem name_loopX (sh kk pl : Int) (hsh : 0 ≤ sh) (hk : 0 ≤ kk) (s6 : Sl) : ∀ (ws : List Int) (name : Str) (s5 : Sl), (∀ t ∈ ws, 0 ≤ t ∧ t < 100) → name.length + ws.length ≤ 100 → ∃ t5 : Sl,
    dLoop (gTg (.one 5)) (l__law_name_by_0 F) (ws.map .int) [.val (.int sh), .val (.int kk), .val (.str "abcdefghijklmnopqrstuvwxyz"), .val (.int pl), .val (.str name), s5, s6] S = .nx [.val (.int sh), .val (.int kk), .val (.str "abcdefghijklmnopqrstuvwxyz"), .val (.int pl), .val (.str (nmF sh kk pl ws name)), t5, s6] S
  | [], name, s5, _, _ => ⟨s5, by simp [nmF]⟩
  | t :: ws, name, s5, ht, hl => by
    have e := name_stepX (S := S) (F := F) sh kk pl name t s6 hsh hk (ht t List.mem_cons_self).1 (ht t List.mem_cons_self).2 (by simp at hl; omega)
    obtain ⟨t5, e'⟩ := name_loopX sh kk pl hsh hk s6 ws (name ++ ltrAt sh kk pl t) (.val (.int t)) (fun u hu => ht u (List.mem_cons_of_mem _ hu)) (by rw [Str.length_append, ltrAt_ok.1]; simp at hl ⊢; omega)
    refine ⟨t5, ?_⟩
    rw [List.map_cons]
    conv => lhs; unfold dLoop
    simp only [gTg_one, gSet_val, List.set_cons_succ, List.set_cons_zero]
    rw [e]
    exact e'
theorem nameBy_ok [R__law_name_by] {sh kk : Int} (hsh : 0 ≤ sh) (hk : 0 ≤ kk) (hk2 : kk ≤ 100) : nameS (nameBy sh kk) = true ∧ CC (k + 1) "_law_name_by" [.int sh, .int kk] S = .ok (.val (.str (nameBy sh kk))) S := by
  rw [R__law_name_by.run__law_name_by]
  unfold nameBy
  by_cases c : sh % 4 = 0 ∧ kk < 8
  · obtain ⟨h1, h2, h3⟩ := ltrI_ok (j := sh / 4 % 26) (Int.emod_nonneg _ (by decide)) (Int.emod_lt_of_pos _ (by decide))
    have hm : opMul (.str (ltrI (sh / 4 % 26))) (.int (1 + kk)) = some (.val (.str (strRep (ltrI (sh / 4 % 26)) (1 + kk).toNat))) := if_pos ⟨by omega, by omega, by rw [h2]; show _ ≤ 4194304; omega⟩
    rw [if_pos c]
    refine ⟨nameS_of (by rw [rep_len, h2]; omega) (by rw [rep_len, h2]; omega) (h3.rep _) ?_, ?_⟩
    · have q := rep_kept ⟨(sh / 4 % 26).toNat, by omega⟩ ⟨kk.toNat, by omega⟩
      dsimp only at q
      rw [show (((sh / 4 % 26).toNat : Nat) : Int) = sh / 4 % 26 by omega, h1] at q
      have q : decide (strRep (ltrI (sh / 4 % 26)) (kk.toNat + 1) ∈ keptL) = false := q
      rw [show (1 + kk).toNat = kk.toNat + 1 by omega]
      exact of_decide_eq_false q
    · have c1 : (sh % 4 == 0) = true := by simpa using c.1
      simp [b__law_name_by, dPeek_eq, c1, c.1, c.2, h1, hm]
  · have c1 : ((sh % 4 == 0) && decide (kk < 8)) = false := by
      cases h : (sh % 4 == 0)
      · rfl
      · rw [beq_iff_eq] at h
        simp only [Bool.true_and, decide_eq_false_iff_not]
        exact fun z => c ⟨h, z⟩
    rw [if_neg c]
    have ln := nmB_len (sh := sh) (kk := kk)
    have sm : SmS (nmB sh kk) := nmF_sm _ _ (by unfold SmS; decide +kernel)
    obtain ⟨q0, q6, q1, q2⟩ := nmLen_b hsh
    have e := name_loopX (S := S) (F := CC k) sh kk (sh / 4 % 7) hsh hk .no (intsTo (nmLen sh).toNat) "" .no (fun t ht => by
      obtain ⟨i, hi, rfl⟩ := List.mem_map.mp ht
      have := List.mem_range.mp hi
      omega) (by unfold intsTo; rw [List.length_map, List.length_range]; show 0 + _ ≤ 100; omega)
    obtain ⟨t5, e⟩ := e
    rw [show (intsTo (nmLen sh).toNat).map W.int = upTo 0 (nmLen sh).toNat from (upTo_eq _).symm] at e
    have e : dLoop (gTg (.one 5)) (l__law_name_by_0 (CC k)) (upTo 0 (nmLen sh).toNat) [.val (.int sh), .val (.int kk), .val (.str "abcdefghijklmnopqrstuvwxyz"), .val (.int (sh / 4 % 7)), .val (.str ""), .no, .no] S = .nx [.val (.int sh), .val (.int kk), .val (.str "abcdefghijklmnopqrstuvwxyz"), .val (.int (sh / 4 % 7)), .val (.str (nmB sh kk)), t5, .no] S := e
    have hr := rng1_ok (j := nmLen sh) (by omega) (by omega)
    generalize nmB sh kk = nm at ln sm e ⊢
    generalize hn : nmLen sh = n at e hr ln q1 q2
    unfold nmLen at hn
    generalize hpl : sh / 4 % 7 = pl at e hn q0 q6 q1
    have mp : opMod (.int (sh / 28)) (.int (8 - pl)) = some (.val (.int (sh / 28 % (8 - pl)))) := if_pos (by omega)
    by_cases ck : nm ∈ keptL
    · rw [if_pos ck]
      refine ⟨nameS_of (by rw [Str.length_append]; omega) (by have := keptL_lt nm ck; rw [Str.length_append]; show nm.length + 1 ≤ 8; omega) (sm.append smS_x) (keptX nm ck), ?_⟩
      have ad : opAdd (.str nm) (.str "x") = some (.val (.str (nm ++ "x"))) := if_pos (by show nm.length + 1 ≤ 4194304; omega)
      rcases Bool.and_eq_false_iff.mp c1 with c2 | c2
      · simp [b__law_name_by, dPeek_eq, c2, hpl, hn, mp, hr, e, pSplit_kept, isIn_kept, ck, ad]
      · cases c3 : (sh % 4 == 0) <;> simp [b__law_name_by, dPeek_eq, c2, c3, hpl, hn, mp, hr, e, pSplit_kept, isIn_kept, ck, ad]
    · rw [if_neg ck]
      refine ⟨nameS_of (by omega) (by omega) sm ck, ?_⟩
      rcases Bool.and_eq_false_iff.mp c1 with c2 | c2
      · simp [b__law_name_by, dPeek_eq, dRetV_eq, c2, hpl, hn, mp, hr, e, pSplit_kept, isIn_kept, ck]
      · cases c3 : (sh % 4 == 0) <;> simp [b__law_name_by, dPeek_eq, dRetV_eq, c2, c3, hpl, hn, mp, hr, e, pSplit_kept, isIn_kept, ck]
theorem name_okStr {x : Str} (h : nameS x = true) : okStr x = true := by
  unfold nameS at h
  rw [Bool.and_eq_true, Bool.and_eq_true, Bool.and_eq_true, decide_eq_true_eq, decide_eq_true_eq] at h
  obtain ⟨⟨h1, h2⟩, h3, h4⟩ := h
  unfold okStr
  rw [Bool.and_eq_true, decide_eq_true_eq]
  refine ⟨by show x.length ≤ 4194304; omega, ?_⟩
  unfold PyData.strOk
  rw [Array.all_eq_true_iff_forall_mem]
  intro a ha
  have q := List.all_eq_true.mp h3 a (Array.mem_toList_iff.mpr ha)
  have q2 := StrLaws.found_one "abcdefghijklmnopqrstuvwxyz" a
  have q : (!(Builtin.Str.occurrences "abcdefghijklmnopqrstuvwxyz" ⟨#[a]⟩ 0 (Str.length "abcdefghijklmnopqrstuvwxyz") 1).isEmpty) = true := q
  rw [q] at q2
  have m : a ∈ ("abcdefghijklmnopqrstuvwxyz" : Str).cps.toList := of_decide_eq_true q2.symm
  have all : ∀ a ∈ ("abcdefghijklmnopqrstuvwxyz" : Str).cps.toList, a < 1114112 := by decide +kernel
  exact decide_eq_true (all a m)
end
end VM

set_option Elab.async false
set_option linter.all false
set_option maxRecDepth 10000
set_option maxHeartbeats 4000000
/-! K04M: the law's own reader; what is asked. -/
namespace VM
open PySem
open Enc (enc)
open Key (dD)
theorem splitL_count (c : Nat) : ∀ l : List Nat, (splitL c l).length = l.count c + 1
  | [] => by simp [splitL]
  | b :: r => by
    have ih := splitL_count c r
    unfold splitL
    by_cases e : b = c
    · subst e
      rw [if_pos rfl, List.length_cons, ih, List.count_cons_self]
    · rw [if_neg e, List.count_cons_of_ne e, ← ih]
      split
      · rename_i q; exact (splitL_ne c r q).elim
      · rename_i q; rw [q] <;> rfl
theorem splitL_cnt (c d : Nat) : ∀ l : List Nat, ∀ p ∈ splitL c l, p.count d ≤ l.count d
  | [], p, h => by
    simp [splitL] at h
    subst h
    simp
  | b :: r, p, h => by
    have ih := splitL_cnt c d r
    have mono : r.count d ≤ (b :: r).count d := List.count_le_count_cons
    unfold splitL at h
    split at h
    · rcases List.mem_cons.mp h with rfl | h
      · simp
      · exact Nat.le_trans (ih p h) mono
    · split at h
      · rename_i e; exact (splitL_ne c r e).elim
      · rename_i q qs e
        rcases List.mem_cons.mp h with rfl | h
        · have := ih q (by rw [e]; exact List.mem_cons_self)
          rw [List.count_cons, List.count_cons]
          omega
        · exact Nat.le_trans (ih p (by rw [e]; exact List.mem_cons_of_mem _ h)) mono
/-- a text of few commas -/
structure Cm (x : Str) : Prop where
  ok : okX x
  few : x.cps.toList.count 44 < 63
theorem Cm.tx {x : Str} (h : Cm x) : Tx x := ⟨h.ok, by
  unfold partsT
  rw [List.length_map, List.length_map, splitL_count]
  have := h.few
  omega⟩
def linesT (x : Str) : List Str := (splitL 10 x.cps.toList).map sgn
theorem Cm.line {x : Str} (h : Cm x) : ∀ y ∈ linesT x, Cm y := fun y hy => ⟨parts_ok h.ok 10 y hy, by
  obtain ⟨p, hp, rfl⟩ := List.mem_map.mp hy
  rw [list_sgn]
  exact Nat.lt_of_le_of_lt (splitL_cnt 10 44 _ p hp) h.few⟩
def addF (F : List Deed) : List Deed → List Deed
  | [] => F
  | d :: r => addF (if d ∈ F then F else F ++ [d]) r
theorem mem_addF {a : Deed} : ∀ (l F : List Deed), a ∈ addF F l ↔ a ∈ F ∨ a ∈ l
  | [], F => by simp [addF]
  | d :: r, F => by
    unfold addF
    rw [mem_addF r]
    by_cases m : d ∈ F
    · rw [if_pos m, List.mem_cons]
      constructor
      · rintro (h | h)
        · exact .inl h
        · exact .inr (.inr h)
      · rintro (h | rfl | h)
        · exact .inl h
        · exact .inl m
        · exact .inr h
    · rw [if_neg m, List.mem_append, List.mem_singleton, List.mem_cons, or_assoc]
theorem addF_nodup : ∀ (l F : List Deed), F.Nodup → (addF F l).Nodup
  | [], F, h => h
  | d :: r, F, h => by
    unfold addF
    refine addF_nodup r _ ?_
    by_cases m : d ∈ F
    · rw [if_pos m]; exact h
    · rw [if_neg m, List.nodup_append]
      refine ⟨h, List.nodup_cons.mpr ⟨by simp, List.nodup_nil⟩, fun a ha b hb e => ?_⟩
      rw [List.mem_singleton] at hb
      exact m (hb ▸ e ▸ ha)
theorem addF_len : ∀ (l F : List Deed), (addF F l).length ≤ F.length + l.length
  | [], F => by simp [addF]
  | d :: r, F => by
    unfold addF
    refine Nat.le_trans (addF_len r _) ?_
    split <;> simp <;> omega
theorem lt_le {α : Type} [Key α] {a b : α} (h : ltK a b) : leK a b := by
  unfold leK
  cases e : PySem.W.dataLt (dD b) (dD a) with
  | false => rfl
  | true => exact (ltK_irrefl a (ltK_trans h e)).elim
theorem addF_perm (l : List Deed) : (addF [] l).Perm (sortSet l) := by
  refine (List.perm_ext_iff_of_nodup (addF_nodup l [] List.nodup_nil) ?_).mpr fun a => ?_
  · exact (sortSet_sorted l).imp fun h e => by subst e; exact ltK_irrefl _ h
  · rw [mem_addF, mem_sortSet]; simp
theorem addF_sort (l : List Deed) : sortK (addF [] l) = sortSet l := by
  rw [sortK_perm_eq (addF_perm l)]
  exact sortK_id ((sortSet_sorted l).imp lt_le)
section
variable [Sys] [IsB] {k : Nat} {S : Store}
theorem read_turn [R__law_words] [R__law_is_name] {x y : Str} {F : List Deed} {s3 : Sl} (hy : okX y) (hl : F.length < 1000) (h3 : s3.isPk = false) :
    (isDeedL (wordsT y) = true → ∃ t3 : Sl, t3.isPk = false ∧ l__law_read_0 (CC (k + 1)) [.val (.str x), .own (.lst (F.map enc)), .val (.str y), s3] S = .nx [.val (.str x), .own (.lst ((if toDeed (wordsT y) ∈ F then F else F ++ [toDeed (wordsT y)]).map enc)), .val (.str y), t3] S) ∧
    (isDeedL (wordsT y) = false → ∃ τ', l__law_read_0 (CC (k + 1)) [.val (.str x), .own (.lst (F.map enc)), .val (.str y), s3] S = .rt (.val .non) τ' S) := by
  have w := lwords_ok (k := k) (S := S) hy
  generalize wordsT y = ws at w
  have nn := fun z : Str => lname_ok (k := k) (S := S) (x := z)
  have len : ws.length ≠ 2 → isDeedL ws = false := fun h => by
    match ws, h with
    | [], _ => rfl
    | [_], _ => rfl
    | [a, b], h => exact (h rfl).elim
    | _ :: _ :: _ :: _, _ => rfl
  by_cases c2 : ws.length = 2
  · match ws, c2 with
    | [a, b], _ =>
      have i0 : fIx (.lst [.str a, .str b]) (.int 0) = some (.val (.str a)) := rfl
      have i1 : fIx (.lst [.str a, .str b]) (.int 1) = some (.val (.str b)) := rfl
      have ne : opCmp .NotEq (.int 2) (.int 2) = some false := opNe_yes (α := Int) (by decide) rfl
      have na := nn a
      have nb := nn b
      have happ : mApp (.lst (F.map enc)) [.val (.tup [.str a, .str b])] = some (.non, .lst ((F ++ [(a, b)]).map enc)) := by
        show (if (F.map (enc : Deed → W)).length < seqLine then _ else _) = _
        rw [if_pos (by rw [List.length_map]; show _ < 1000000; omega), List.map_append] <;> rfl
      constructor
      · intro hd
        have hd : (nameS a && nameS b) = true := hd
        rw [Bool.and_eq_true] at hd
        rw [hd.1] at na
        rw [hd.2] at nb
        refine ⟨.own (.lst [.str a, .str b]), rfl, ?_⟩
        show _ = O.nx [.val (.str x), .own (.lst ((if ((a, b) : Deed) ∈ F then F else F ++ [(a, b)]).map enc)), .val (.str y), .own (.lst [.str a, .str b])] S
        by_cases m : ((a, b) : Deed) ∈ F
        · have ni : opCmp .NotIn (.tup [.str a, .str b]) (.lst (F.map enc)) = some false := notIn_yes (α := Deed) (a := (a, b)) (by decide) m
          rw [if_pos m]
          generalize F.map (enc : Deed → W) = fw at ni happ ⊢
          simp [l__law_read_0, dPeek_eq, dVar_eq, w, ne, i0, i1, na, nb, ni]
        · have ni : opCmp .NotIn (.tup [.str a, .str b]) (.lst (F.map enc)) = some true := notIn_no (α := Deed) (a := (a, b)) (by decide) m
          rw [if_neg m]
          generalize (F ++ [(a, b)]).map (enc : Deed → W) = gw at happ ⊢
          generalize F.map (enc : Deed → W) = fw at ni happ ⊢
          simp [l__law_read_0, dPeek_eq, dVar_eq, w, ne, i0, i1, na, nb, ni, dMut_eq, happ]
      · intro hd
        have hd : (nameS a && nameS b) = false := hd
        cases ea : nameS a with
        | false =>
          rw [ea] at na
          exact ⟨_, by simp [l__law_read_0, dPeek_eq, dVar_eq, w, ne, i0, i1, na]; rfl⟩
        | true =>
          rw [ea] at na
          rw [ea, Bool.true_and] at hd
          rw [hd] at nb
          exact ⟨_, by simp [l__law_read_0, dPeek_eq, dVar_eq, w, ne, i0, i1, na, nb]; rfl⟩
  · refine ⟨fun h => ?_, fun _ => ?_⟩
    · rw [len c2] at h; cases h
    · have ne : opCmp .NotEq (.int (ws.length : Int)) (.int 2) = some true := opNe_no (α := Int) (by decide) (by omega)
      exact ⟨_, by simp [l__law_read_0, dPeek_eq, dVar_eq, w, ne]; rfl⟩
theorem read_loop [R__law_words] [R__law_is_name] {x : Str} : ∀ (ys : List Str) (F : List Deed) (s2 s3 : Sl), (∀ y ∈ ys, okX y) → F.length + ys.length ≤ 1000 → s3.isPk = false →
    ((ys.all fun y => isDeedL (wordsT y)) = true → ∃ t2 t3 : Sl, dLoop (gTg (.one 2)) (l__law_read_0 (CC (k + 1))) (ys.map .str) [.val (.str x), .own (.lst (F.map enc)), s2, s3] S = .nx [.val (.str x), .own (.lst ((addF F (ys.map fun y => toDeed (wordsT y))).map enc)), t2, t3] S) ∧
    ((ys.all fun y => isDeedL (wordsT y)) = false → ∃ τ', dLoop (gTg (.one 2)) (l__law_read_0 (CC (k + 1))) (ys.map .str) [.val (.str x), .own (.lst (F.map enc)), s2, s3] S = .rt (.val .non) τ' S)
  | [], F, s2, s3, _, _, _ => ⟨fun _ => ⟨s2, s3, by simp [addF]⟩, fun h => by simp at h⟩
  | y :: ys, F, s2, s3, hy, hl, h3 => by
    rw [List.length_cons] at hl
    obtain ⟨q1, q2⟩ := read_turn (k := k) (S := S) (x := x) (F := F) (hy y List.mem_cons_self) (by omega) h3
    have step : dLoop (gTg (.one 2)) (l__law_read_0 (CC (k + 1))) ((y :: ys).map .str) [.val (.str x), .own (.lst (F.map enc)), s2, s3] S = match l__law_read_0 (CC (k + 1)) [.val (.str x), .own (.lst (F.map enc)), .val (.str y), s3] S with
      | .nx τ S => dLoop (gTg (.one 2)) (l__law_read_0 (CC (k + 1))) (ys.map .str) τ S
      | .ct τ S => dLoop (gTg (.one 2)) (l__law_read_0 (CC (k + 1))) (ys.map .str) τ S
      | .bk τ S => .nx τ S
      | o => o := by
      rw [List.map_cons]
      conv => lhs; unfold dLoop
      simp only [gTg_one, gSet_val, List.set_cons_succ, List.set_cons_zero]
      all_goals rfl
    rw [step, List.all_cons]
    cases hd : isDeedL (wordsT y) with
    | true =>
      obtain ⟨t3, p3, e⟩ := q1 hd
      rw [e, Bool.true_and]
      obtain ⟨r1, r2⟩ := read_loop (x := x) ys (if toDeed (wordsT y) ∈ F then F else F ++ [toDeed (wordsT y)]) (.val (.str y)) t3 (fun z hz => hy z (List.mem_cons_of_mem _ hz)) (by split <;> first | omega | (rw [List.length_append, List.length_singleton]; omega)) p3
      exact ⟨fun h => r1 h, fun h => r2 h⟩
    | false =>
      obtain ⟨τ', e⟩ := q2 hd
      rw [e]
      exact ⟨fun h => by simp at h, fun _ => ⟨τ', rfl⟩⟩
/-- what a reading tells -/
def dayO : Option (List Deed) → W
  | some l => .tup (l.map enc)
  | none => .non
theorem law_read_ok [R__law_words] [R__law_is_name] [R__law_read] {x : Str} (h : Tx x) : CC (k + 2) "_law_read" [.str x] S = .ok (.val (dayO (readP x))) S := by
  rw [R__law_read.run__law_read]
  have hw := lwords_ok (k := k) (S := S) h.ok
  have co := split_co h.ok
  have eq : opCmp .Eq (.lst ((wordsT x).map .str)) (.lst [.str "-"]) = some (decide (wordsT x = ([("-" : Str)] : List Str))) := opEq_enc (α := List Str) (b := [("-" : Str)]) (by decide)
  unfold readP
  by_cases c : wordsT x = ([("-" : Str)] : List Str)
  · rw [if_pos c]
    rw [decide_eq_true c] at eq
    generalize (wordsT x).map W.str = wv at hw eq
    simp [b__law_read, dVar_eq, hw, eq, seqLine]
    rfl
  · rw [if_neg c]
    rw [decide_eq_false c] at eq
    have few := h.few
    unfold partsT at few
    rw [List.length_map] at few
    have lp := read_loop (k := k) (S := S) (x := x) ((splitL 44 x.cps.toList).map sgn) [] .no .no (parts_ok h.ok 44) (by show 0 + _ ≤ 1000; omega) rfl
    have ea : (((splitL 44 x.cps.toList).map sgn).all fun y => isDeedL (wordsT y)) = (partsT x).all isDeedL := by
      unfold partsT
      rw [List.all_map (l := (splitL 44 x.cps.toList).map sgn) (f := wordsT)] <;> rfl
    have em : (((splitL 44 x.cps.toList).map sgn).map fun y => toDeed (wordsT y)) = (partsT x).map toDeed := by
      unfold partsT
      rw [List.map_map (l := (splitL 44 x.cps.toList).map sgn)] <;> rfl
    rw [ea, em] at lp
    generalize ((splitL 44 x.cps.toList).map sgn).map W.str = pw at co lp
    cases ha : (partsT x).all isDeedL with
    | true =>
      rw [if_pos rfl]
      obtain ⟨t2, t3, e⟩ := lp.1 ha
      have so := fSortA_key (α := Deed) (addF [] ((partsT x).map toDeed)) fun _ _ => rfl
      rw [addF_sort] at so
      have len : (addF [] ((partsT x).map toDeed)).length = (sortSet ((partsT x).map toDeed)).length := (addF_perm _).length_eq
      have lenW : ((addF [] ((partsT x).map toDeed)).map (enc : Deed → W)).length = (sortSet ((partsT x).map toDeed)).length := by rw [List.length_map, len]
      have e : dLoop (gTg (.one 2)) (l__law_read_0 (CC (k + 1))) pw [.val (.str x), .own (.lst []), .no, .no] S = .nx [.val (.str x), .own (.lst ((addF [] ((partsT x).map toDeed)).map enc)), t2, t3] S := e
      generalize sortSet ((partsT x).map toDeed) = so1 at so lenW ⊢
      generalize (addF [] ((partsT x).map toDeed)).map (enc : Deed → W) = fw at e so lenW
      by_cases c8 : so1.length ≤ 8
      · have g : decide ((8 : Int) < (fw.length : Int)) = false := decide_eq_false (by omega)
        rw [if_pos c8]
        show _ = RF.ok (.val (.tup (so1.map enc))) S
        generalize so1.map (enc : Deed → W) = sw at so
        simp [-List.map_map, -List.length_map, b__law_read, dPeek_eq, dVar_eq, hw, eq, co, e, g, so, seqLine]
      · have g : decide ((8 : Int) < (fw.length : Int)) = true := decide_eq_true (by omega)
        rw [if_neg c8]
        simp [-List.map_map, -List.length_map, b__law_read, dPeek_eq, dVar_eq, hw, eq, co, e, g, seqLine]
        rfl
    | false =>
      rw [if_neg (by simp)]
      obtain ⟨τ', e⟩ := lp.2 ha
      have e : dLoop (gTg (.one 2)) (l__law_read_0 (CC (k + 1))) pw [.val (.str x), .own (.lst []), .no, .no] S = .rt (.val .non) τ' S := e
      simp [-List.map_map, -List.length_map, b__law_read, dPeek_eq, dVar_eq, hw, eq, co, e, seqLine]
      rfl
end
end VM

set_option Elab.async false
set_option linter.all false
set_option maxRecDepth 10000
set_option maxHeartbeats 4000000
/-! K04N: the text that the law spoils is short and has few commas. -/
namespace VM
open PySem
open Enc (enc)
open Key (dD)
structure Bd (n c : Nat) (x : Str) : Prop where
  len : x.length ≤ n
  few : x.cps.toList.count 44 ≤ c
  lt : ∀ a ∈ x.cps.toList, a < 1114112
theorem Bd.mono {n c n' c' : Nat} {x : Str} (h : Bd n c x) (hn : n ≤ n') (hc : c ≤ c') : Bd n' c' x := ⟨Nat.le_trans h.len hn, Nat.le_trans h.few hc, h.lt⟩
theorem Bd.app {n c m d : Nat} {x y : Str} (h : Bd n c x) (g : Bd m d y) : Bd (n + m) (c + d) (x ++ y) := by
  refine ⟨by rw [Str.length_append]; exact Nat.add_le_add h.len g.len, ?_, fun a ha => ?_⟩
  · rw [app_list, List.count_append]; exact Nat.add_le_add h.few g.few
  · rw [app_list] at ha
    rcases List.mem_append.mp ha with ha | ha
    · exact h.lt a ha
    · exact g.lt a ha
theorem Bd.cut {n c : Nat} {x : Str} (h : Bd n c x) (lo hi : Option Int) : Bd n c (L2.cutS x lo hi) := by
  have e : (L2.cutS x lo hi).cps.toList = (x.cps.toList.drop (HT.sIx x.length 0 lo)).take (HT.sIx x.length x.length hi - HT.sIx x.length 0 lo) := by
    unfold L2.cutS
    simp
  have sl : List.Sublist (L2.cutS x lo hi).cps.toList x.cps.toList := by
    rw [e]; exact (List.take_sublist _ _).trans (List.drop_sublist _ _)
  refine ⟨Nat.le_trans ?_ h.len, Nat.le_trans (sl.count_le _) h.few, fun a ha => h.lt a (sl.subset ha)⟩
  have := sl.length_le
  rw [Array.length_toList, Array.length_toList] at this
  exact this
theorem Bd.join {n c m d : Nat} {sep : Str} (hs : Bd m d sep) : ∀ {l : List Str}, (∀ x ∈ l, Bd n c x) → Bd (l.length * (n + m)) (l.length * c + (l.length - 1) * d) (Str.join sep l)
  | [], _ => ⟨Nat.zero_le _, Nat.zero_le _, fun a ha => by cases (show a ∈ ([] : List Nat) from ha)⟩
  | [x], h => by
    have := h x List.mem_cons_self
    refine (show Bd n c (Str.join sep [x]) from this).mono (by simp) (by simp)
  | x :: y :: r, h => by
    have ih := Bd.join hs (l := y :: r) fun z hz => h z (List.mem_cons_of_mem _ hz)
    have q := ((h x List.mem_cons_self).app hs).app ih
    refine (show Bd _ _ (Str.join sep (x :: y :: r)) from q).mono ?_ ?_
    · rw [List.length_cons (a := x), Nat.succ_mul]; omega
    · rw [List.length_cons (a := x), List.length_cons (a := y), Nat.add_mul (r.length + 1) 1 c, show r.length + 1 + 1 - 1 = r.length + 1 by omega, show r.length + 1 - 1 = r.length by omega, Nat.add_mul r.length 1 d]
      omega
theorem txt_join (sep : Str) (l : List Str) : Txt.join sep l = Str.join sep l := by
  unfold Txt.join
  exact StrLaws.glued_eq_join _ _
theorem Bd.name {x : Str} (h : nameS x = true) : Bd 8 0 x := ⟨name_len h, Nat.le_of_eq (List.count_eq_zero.mpr (name_free h small_co)), name_lt h⟩
def bdB (n c : Nat) (x : Str) : Bool := decide (x.length ≤ n) && (decide (x.cps.toList.count 44 ≤ c) && x.cps.toList.all fun a => decide (a < 1114112))
theorem bd_of {n c : Nat} {x : Str} (h : bdB n c x = true) : Bd n c x := by
  unfold bdB at h
  rw [Bool.and_eq_true, Bool.and_eq_true, decide_eq_true_eq, decide_eq_true_eq] at h
  exact ⟨h.1, h.2.1, fun a ha => of_decide_eq_true (List.all_eq_true.mp h.2.2 a ha)⟩
theorem Bd.deed {p : Deed} (h : okDeed p) : Bd 17 0 (deedT p) := by
  rw [deedT_eq]
  exact ((Bd.name h.1).app (bd_of (n := 1) (c := 0) (by decide +kernel))).app (Bd.name h.2)
theorem Bd.cm {n c : Nat} {x : Str} (h : Bd n c x) (hn : n ≤ 100000) (hc : c < 63) : Cm x := ⟨okX_of (Nat.le_trans h.len hn) h.lt, Nat.lt_of_le_of_lt h.few hc⟩
/-! the spoilt text -/
def signL : List Str := [",", ",", "-", "-", " ", "a", "b", "9", "A", "Z", "~", "\n", ";"]
theorem sign_ix : ∀ j : Fin 13, ∃ s ∈ signL, fIx (.str ",,-- ab9AZ~\n;") (.int (j.val : Nat)) = some (.val (.str s)) := by
  intro j
  match j with
  | ⟨0, _⟩ => exact ⟨",", by decide, by kernel_rfl⟩
  | ⟨1, _⟩ => exact ⟨",", by decide, by kernel_rfl⟩
  | ⟨2, _⟩ => exact ⟨"-", by decide, by kernel_rfl⟩
  | ⟨3, _⟩ => exact ⟨"-", by decide, by kernel_rfl⟩
  | ⟨4, _⟩ => exact ⟨" ", by decide, by kernel_rfl⟩
  | ⟨5, _⟩ => exact ⟨"a", by decide, by kernel_rfl⟩
  | ⟨6, _⟩ => exact ⟨"b", by decide, by kernel_rfl⟩
  | ⟨7, _⟩ => exact ⟨"9", by decide, by kernel_rfl⟩
  | ⟨8, _⟩ => exact ⟨"A", by decide, by kernel_rfl⟩
  | ⟨9, _⟩ => exact ⟨"Z", by decide, by kernel_rfl⟩
  | ⟨10, _⟩ => exact ⟨"~", by decide, by kernel_rfl⟩
  | ⟨11, _⟩ => exact ⟨"\n", by decide, by kernel_rfl⟩
  | ⟨12, _⟩ => exact ⟨";", by decide, by kernel_rfl⟩
theorem signL_bd : ∀ s ∈ signL, Bd 1 1 s := fun s hs => bd_of (List.all_eq_true.mp (show (signL.all (bdB 1 1)) = true by decide +kernel) s hs)
def someT : List Str := ["",
  "-", "- -", "a",
  "a b c", "a b,",
  ", a b",
  "a b,,c d", "-, a b",
  "a must",
  "abcdefghi a",
  "a b\n-\nc", "A b",
  "a b ;", "; a b", "a ; b"]
theorem someT_bd : ∀ s ∈ someT, Bd 20 2 s := fun s hs => bd_of (List.all_eq_true.mp (show (someT.all (bdB 20 2)) = true by decide +kernel) s hs)
theorem nine_ix : ∀ j : Fin 9, ∃ s : Str, Bd 1 0 s ∧ fIx (.str "abcdefghi") (.int (j.val : Nat)) = some (.val (.str s)) := by
  intro j
  match j with
  | ⟨0, _⟩ => exact ⟨"a", bd_of (by decide +kernel), by kernel_rfl⟩
  | ⟨1, _⟩ => exact ⟨"b", bd_of (by decide +kernel), by kernel_rfl⟩
  | ⟨2, _⟩ => exact ⟨"c", bd_of (by decide +kernel), by kernel_rfl⟩
  | ⟨3, _⟩ => exact ⟨"d", bd_of (by decide +kernel), by kernel_rfl⟩
  | ⟨4, _⟩ => exact ⟨"e", bd_of (by decide +kernel), by kernel_rfl⟩
  | ⟨5, _⟩ => exact ⟨"f", bd_of (by decide +kernel), by kernel_rfl⟩
  | ⟨6, _⟩ => exact ⟨"g", bd_of (by decide +kernel), by kernel_rfl⟩
  | ⟨7, _⟩ => exact ⟨"h", bd_of (by decide +kernel), by kernel_rfl⟩
  | ⟨8, _⟩ => exact ⟨"i", bd_of (by decide +kernel), by kernel_rfl⟩
section
variable [Sys] [IsB] {k : Nat} {S : Store}
theorem spoilt_ok [R__law_spoilt] {n c : Nat} {x : Str} {d : Int} (h : Bd n c x) (hn : n ≤ 10000) (hc : 5 ≤ c) (D : Drawn d) : ∃ y : Str, Bd (2 * n + 200) (2 * c + 1) y ∧ CC (k + 1) "_law_spoilt" [.str x, .int d] S = .ok (.val (.str y)) S := by
  rw [R__law_spoilt.run__law_spoilt]
  have l0 : 0 ≤ (x.length : Int) := by omega
  have md : opMod (.int (d / 4)) (.int ((x.length : Int) + 1)) = some (.val (.int (d / 4 % ((x.length : Int) + 1)))) := if_pos (by omega)
  obtain ⟨s, hs, es⟩ := sign_ix ⟨(d / 4000 % 13).toNat, by omega⟩
  dsimp only at es
  rw [Int.toNat_of_nonneg (Int.emod_nonneg _ (by decide))] at es
  have bs := signL_bd s hs
  generalize d / 4 % ((x.length : Int) + 1) = at_ at md
  have ba := h.cut none (some at_)
  have bb := h.cut (some at_) none
  have bc := h.cut (some (at_ + 1)) none
  have sl0 : fSlice (.str x) none (some at_) = some (.val (.str (L2.cutS x none (some at_)))) := rfl
  have sl1 : fSlice (.str x) (some at_) none = some (.val (.str (L2.cutS x (some at_) none))) := rfl
  have sl2 : fSlice (.str x) (some (at_ + 1)) none = some (.val (.str (L2.cutS x (some (at_ + 1)) none))) := rfl
  generalize L2.cutS x none (some at_) = u at ba sl0
  generalize L2.cutS x (some at_) none = v at bb sl1
  generalize L2.cutS x (some (at_ + 1)) none = w at bc sl2
  have lu := ba.len
  have lv := bb.len
  have lw := bc.len
  have ls := bs.len
  have a1 : opAdd (.str u) (.str s) = some (.val (.str (u ++ s))) := opAdd_str (by omega)
  have a2 : opAdd (.str (u ++ s)) (.str v) = some (.val (.str (u ++ s ++ v))) := opAdd_str (by rw [Str.length_append]; omega)
  have a3 : opAdd (.str (u ++ s)) (.str w) = some (.val (.str (u ++ s ++ w))) := opAdd_str (by rw [Str.length_append]; omega)
  have a4 : opAdd (.str u) (.str w) = some (.val (.str (u ++ w))) := opAdd_str (by omega)
  have eqi : ∀ a b : Int, opCmp .Eq (.int a) (.int b) = some (decide (a = b)) := fun a b => opEq_enc (α := Int) (by decide)
  have r0 : 0 ≤ d % 4 := Int.emod_nonneg _ (by decide)
  have r1 : d % 4 < 4 := Int.emod_lt_of_pos _ (by decide)
  generalize hj : d % 4 = j at r0 r1
  have cj : j = 0 ∨ j = 1 ∨ j = 2 ∨ j = 3 := by omega
  rcases cj with rfl | rfl | rfl | rfl
  · exact ⟨u ++ s ++ v, ((ba.app bs).app bb).mono (by omega) (by omega), by simp [b__law_spoilt, dPeek_eq, dVar_eq, md, es, hj, sl0, sl1, a1, a2, -fSlice_str]⟩
  · exact ⟨u ++ s ++ w, ((ba.app bs).app bc).mono (by omega) (by omega), by simp [b__law_spoilt, dPeek_eq, dVar_eq, md, es, hj, sl0, sl2, a1, a3, -fSlice_str]⟩
  · exact ⟨u ++ w, (ba.app bc).mono (by omega) (by omega), by simp [b__law_spoilt, dPeek_eq, dVar_eq, md, es, hj, sl0, sl2, a4, -fSlice_str]⟩
  · have q0 : 0 ≤ d / 64 % 2 := Int.emod_nonneg _ (by decide)
    have q1 : d / 64 % 2 < 2 := Int.emod_lt_of_pos _ (by decide)
    have rg := rng1_ok (j := 8 + d / 64 % 2) (by omega) (by omega)
    obtain ⟨f, hf, e⟩ := dLc_ex (S := S) (di := iRange1 (dCons (dKeep (dOp2 opAdd (dConst (.int 8)) (dOp2 opMod (dOp2 opFDiv (dPeek 1) (dConst (.int 64))) (dConst (.int 2))))) dNil)) (te := dOp2 opAdd (dConst (.str "a b")) (dOp2 fIx (dConst (.str "abcdefghi")) (dPeek 5)))
      (i := 5) (τ := [.val (.str x), .val (.int d), .val (.int at_), .val (.str s), .own (.lst (someT.map .str)), .no]) (ws := VM.upTo 0 (8 + d / 64 % 2).toNat) (x := .val .non) (fun _ v => ∃ y, v = .str y ∧ Bd 4 0 y) (by simp) rfl (by simp) (by simp [dPeek_eq, rg]) (fun w hw => by
        obtain ⟨i, rfl, i0, i1⟩ := upTo_mem hw
        obtain ⟨z, bz, ez⟩ := nine_ix ⟨i.toNat, by omega⟩
        dsimp only at ez
        rw [Int.toNat_of_nonneg i0] at ez
        have bz2 : Bd 4 0 ("a b" ++ z) := (bd_of (n := 3) (c := 0) (x := "a b") (by decide +kernel)).app bz
        have az : opAdd (.str "a b") (.str z) = some (.val (.str ("a b" ++ z))) := opAdd_str (by have := bz.len; show 3 + z.length ≤ 1000000; omega)
        exact ⟨.str ("a b" ++ z), ⟨_, rfl, bz2⟩, by simp [dPeek_eq, ez, az]⟩) (by rw [upTo_len]; exact line_le (by omega))
    obtain ⟨ts, el, ht⟩ := strs_typed (P := fun y => Bd 4 0 y) (ws := (VM.upTo 0 (8 + d / 64 % 2).toNat).map f) fun w hw => by
      obtain ⟨u, hu, rfl⟩ := List.mem_map.mp hw
      exact hf u hu
    have lt := congrArg List.length el
    rw [List.length_map, List.length_map, upTo_len] at lt
    rw [el] at e
    have bj := Bd.join (bd_of (n := 2) (c := 1) (x := ", ") (by decide +kernel)) ht
    have sm := sum_of (l := ts) (n := 4) fun y hy => (ht y hy).len
    have jn : pJoin (.str ", ") [.lst (ts.map .str)] = some (.val (.str (Txt.join ", " ts))) := pJoin_lst (by show _ + ts.length * 2 ≤ 4194304; omega)
    rw [txt_join] at jn
    generalize Str.join ", " ts = jt at bj jn
    have bj : Bd 54 8 jt := bj.mono (by omega) (by omega)
    have all : ∀ y ∈ someT ++ [jt], Bd 200 11 y := fun y hy => by
      rcases List.mem_append.mp hy with hy | hy
      · exact (someT_bd y hy).mono (by omega) (by omega)
      · rw [List.mem_singleton.mp hy]; exact bj.mono (by omega) (by omega)
    obtain ⟨y, hy, ey⟩ := ix_strs (l := someT ++ [jt]) (j := d / 4 % 17) (Int.emod_nonneg _ (by decide)) (by show d / 4 % 17 < 17; exact Int.emod_lt_of_pos _ (by decide))
    refine ⟨y, (all y hy).mono (by omega) (by omega), ?_⟩
    generalize ts.map W.str = tw at e jn
    unfold someT at e ey
    simp at e ey
    simp [b__law_spoilt, dPeek_eq, dVar_eq, md, es, hj, seqLine, e, jn, ey, opAdd_lst]
end
end VM

set_option Elab.async false
set_option linter.all false
set_option maxRecDepth 10000
set_option maxHeartbeats 4000000
/-! K04P: a row read; what is asked of the program. -/
namespace VM
open PySem
open Enc (enc)
open Key (dD)
/-- a reading, as data -/
structure DayD where
  d : Option (List Deed)
  deriving DecidableEq
theorem eqW_non_tup {xs : List W} (h : (W.tup xs).toD ≠ none) : eqW .non (.tup xs) = false := by
  cases e : (W.tup xs).toD with
  | none => exact (h e).elim
  | some d =>
    unfold eqW
    rw [e]
    have : ∃ ds, d = .tuple ds := by
      unfold W.toD at e
      obtain ⟨ds, _, rfl⟩ := Option.map_eq_some_iff.mp e
      exact ⟨ds, rfl⟩
    obtain ⟨ds, rfl⟩ := this
    simp [W.toD, PyData.eqv]
theorem eqW_tup_non {xs : List W} (h : (W.tup xs).toD ≠ none) : eqW (.tup xs) .non = false := by
  cases e : (W.tup xs).toD with
  | none => exact (h e).elim
  | some d =>
    unfold eqW
    rw [e]
    have : ∃ ds, d = .tuple ds := by
      unfold W.toD at e
      obtain ⟨ds, _, rfl⟩ := Option.map_eq_some_iff.mp e
      exact ⟨ds, rfl⟩
    obtain ⟨ds, rfl⟩ := this
    simp [W.toD, PyData.eqv]
theorem tupD (l : List Deed) : (W.tup (l.map enc)).toD ≠ none := by
  obtain ⟨d, h, _⟩ := Enc.dat (α := Tup Deed) ⟨l⟩
  have h : (W.tup (l.map enc)).toD = some d := h
  rw [h]; simp
theorem datN_nonW : DatN 2 .non := ⟨.none, by simp [W.toD], by simp [PyData.depth]⟩
instance : Enc DayD := ⟨fun v => dayO v.d, 2, fun v => by
  cases e : v.d with
  | none => exact datN_nonW
  | some l => exact Enc.dat (α := Tup Deed) ⟨l⟩, fun a b => by
  cases a with | mk a =>
  cases b with | mk b =>
  cases a with
  | none =>
    cases b with
    | none => simp [dayO, eqW, W.toD, PyData.eqv]
    | some m =>
      show eqW .non (.tup (m.map enc)) = true ↔ _
      rw [eqW_non_tup (tupD m)]; simp
  | some l =>
    cases b with
    | none =>
      show eqW (.tup (l.map enc)) .non = true ↔ _
      rw [eqW_tup_non (tupD l)]; simp
    | some m =>
      have := Enc.eqv (α := Tup Deed) ⟨l⟩ ⟨m⟩
      show eqW (.tup (l.map enc)) (.tup (m.map enc)) = true ↔ _
      have e : eqW (.tup (l.map enc)) (.tup (m.map enc)) = true ↔ (⟨l⟩ : Tup Deed) = ⟨m⟩ := this
      rw [e]; simp⟩
def rowsT (x : Str) : List Str := (linesT x).filter fun y => !decide (wordsT y = [])
def rowOk (x : Str) : Bool := (rowsT x).all fun y => (readP y).isSome
def rowD (x : Str) : List DayD := (rowsT x).map fun y => ⟨readP y⟩
section
variable [Sys] [IsB] {k : Nat} {S : Store}
theorem read_row_eq [R_kept_words] [R_is_name] [R_is_deed] [R_day_of] [R_words_of_days] [R_read_day] [R_read_row] {x : Str} (h : Cm x) : CC (k + 6) "read_row" [.str x] S = if rowOk x = true then .ok (.own (.lst ((rowD x).map enc))) S else .ex "NoDay" S := by
  rw [R_read_row.run_read_row]
  have nl := split_nl h.ok
  have many := parts_many h.ok 10
  have hl := h.line
  unfold linesT at hl
  have hc := dLcX_fm1 (di := iSeq (dMeth "str" pSplit (dPeek 0) (dCons (dConst (.str "\n")) dNil))) (i := 1) (tt := dCmpT (opCmp .NotEq) (dCallF (CC (k + 5) "words_of_days") (dCons (dKeep (dVar 1)) dNil)) (dLst dNil)) (te := dCallF (CC (k + 5) "read_day") (dCons (dKeep (dVar 1)) dNil)) (Cn := "NoDay")
    (fun w => match w with | .str y => !decide (wordsT y = []) | _ => false) (fun w => match w with | .str y => (readP y).map (fun l => W.tup (l.map enc)) | _ => none) (ws := ((splitL 10 x.cps.toList).map sgn).map .str) (x := .val (.lst (((splitL 10 x.cps.toList).map sgn).map .str))) (τ := [.val (.str x), .no]) (S := S) (by simp) rfl rfl
    (by simp [-List.map_map, dPeek_eq, nl]) (fun w hw => by
      obtain ⟨y, hy, rfl⟩ := List.mem_map.mp hw
      have q := words_ok (k := k + 4) (S := S) (hl y hy).ok
      have e : opCmp .NotEq (.lst ((wordsT y).map .str)) (.lst []) = some (!decide (wordsT y = [])) := opNe_enc (α := List Str) (b := []) (by decide)
      generalize (wordsT y).map W.str = wv at q e
      simp [dVar_eq, q, e]) (fun w hw _ => by
      obtain ⟨y, hy, rfl⟩ := List.mem_map.mp hw
      have q := read_day_eq (k := k) (S := S) (hl y hy).tx
      cases e : readP y with
      | some l =>
        rw [e] at q
        simp [-List.map_map, dVar_eq, q, e]
      | none =>
        rw [e] at q
        simp [dVar_eq, q, e]) (by rw [List.length_map]; exact line_le (by omega))
  have e1 : ((((splitL 10 x.cps.toList).map sgn).map W.str).filter (fun w => match w with | .str y => !decide (wordsT y = []) | _ => false)) = (rowsT x).map .str := by
    unfold rowsT linesT
    rw [List.filter_map] <;> rfl
  have e2 : (((rowsT x).map W.str).all fun w => ((match w with | .str y => (readP y).map (fun l => W.tup (l.map enc)) | _ => none) : Option W).isSome) = rowOk x := by
    rw [List.all_map]
    unfold rowOk
    congr 1
    funext y
    show ((readP y).map _).isSome = _
    rw [Option.isSome_map]
  have e3 : ((rowsT x).map W.str).map (fun w => ((match w with | .str y => (readP y).map (fun l => W.tup (l.map enc)) | _ => none) : Option W).getD .non) = (rowD x).map enc := by
    unfold rowD
    rw [List.map_map, List.map_map]
    refine List.map_congr_left fun y _ => ?_
    show ((readP y).map fun l => W.tup (l.map enc)).getD .non = dayO (readP y)
    cases readP y <;> rfl
  rw [e1, e2, e3] at hc
  by_cases c : rowOk x = true
  · rw [if_pos c] at hc ⊢
    simp [-List.map_map, b_read_row, hc]
  · rw [if_neg c] at hc ⊢
    simp [-List.map_map, b_read_row, hc]
theorem isNot_non : opCmp .IsNot .non .non = some false := by kernel_rfl
theorem isNot_exc {C : Str} : opCmp .IsNot (.exc C) .non = some true := rfl
theorem int_true : fInt (.bl true) = some (.val (.int 1)) := by kernel_rfl
theorem class_ok [ISX] [R__law_class] : CC (k + 1) "_law_class" [.exc "NoDay"] S = .ok (.val (.bl true)) S := by
  rw [R__law_class.run__law_class]
  have hn : pCount (.lst [.bl false, .bl false, .bl false, .bl false, .bl false, .bl false, .bl false]) [.bl true] = some (.val (.int 0)) := by kernel_rfl
  simp [b__law_class, dPeek_eq, ISX.isx_NoDay_NoBook, ISX.isx_NoDay_NoClause, ISX.isx_NoDay_NoHand, ISX.isx_NoDay_NoPact, ISX.isx_NoDay_NoDay, ISX.isx_NoDay_ValueError, ISX.isx_NoDay_NoRow, ISX.isx_NoDay_NoSum, ISX.isx_NoDay_TooMuch, opAdd_lst, hn, seqLine]
theorem nd_ix : fIx (.lst [.str "other", .str "no day"]) (.int 1) = some (.val (.str "no day")) := by kernel_rfl
theorem eq00 : opCmp .Eq (.int 0) (.int 0) = some true := by kernel_rfl
theorem eq10 : opCmp .Eq (.int 1) (.int 0) = some false := by kernel_rfl
theorem asked0 [ISX] [R__law_class] [R__law_asked] [R_kept_words] [R_is_name] [R_is_deed] [R_day_of] [R_words_of_days] [R_read_day] [R_read_row] {x : Str} (h : Cm x) : CC (k + 7) "_law_asked" [.int 0, .str x] S = .ok (if rowOk x = true then .own (.lst ((rowD x).map enc)) else .val (.str "no day")) S := by
  rw [R__law_asked.run__law_asked]
  have q := read_row_eq (k := k) (S := S) h
  have hc := class_ok (k := k + 5) (S := S)
  by_cases c : rowOk x = true
  · rw [if_pos c] at q ⊢
    generalize (rowD x).map (enc : DayD → W) = rw_ at q ⊢
    simp [b__law_asked, dPeek_eq, dVar_eq, dRetV_eq, eq00, q, dTry, isNot_non]
  · rw [if_neg c] at q ⊢
    simp [b__law_asked, dPeek_eq, dVar_eq, dRetV_eq, eq00, q, dTry, dCatch, ISX.cat_NoDay_PactError, hc, isNot_exc, int_true, seqLine, nd_ix]
def dayS : Option (List Deed) → W
  | some l => .tup (l.map enc)
  | none => .str "no day"
theorem asked1 [ISX] [R__law_class] [R__law_asked] [R_kept_words] [R_is_name] [R_is_deed] [R_day_of] [R_words_of_days] [R_read_day] {x : Str} (h : Tx x) : CC (k + 7) "_law_asked" [.int 1, .str x] S = .ok (.val (dayS (readP x))) S := by
  rw [R__law_asked.run__law_asked]
  have q := read_day_eq (k := k + 1) (S := S) h
  have hc := class_ok (k := k + 5) (S := S)
  cases e : readP x with
  | some l =>
    rw [e] at q
    have q : CC (k + 6) "read_day" [.str x] S = .ok (.val (.tup (l.map enc))) S := q
    show _ = RF.ok (.val (.tup (l.map enc))) S
    generalize l.map (enc : Deed → W) = lw at q ⊢
    simp [b__law_asked, dPeek_eq, dVar_eq, dRetV_eq, eq10, q, dTry, isNot_non]
  | none =>
    rw [e] at q
    have q : CC (k + 6) "read_day" [.str x] S = .ex "NoDay" S := q
    show _ = RF.ok (.val (.str "no day")) S
    simp [b__law_asked, dPeek_eq, dVar_eq, dRetV_eq, eq10, q, dTry, dCatch, ISX.cat_NoDay_PactError, hc, isNot_exc, int_true, seqLine, nd_ix]
end
end VM

set_option Elab.async false
set_option linter.all false
set_option maxRecDepth 20000
set_option maxHeartbeats 4000000
/-! K04Q: the law, statement by statement. -/
namespace VM
open PySem
open Enc (enc)
open Key (dD)
def dueW (x : Str) : W := if rowOk x = true then .lst ((rowD x).map enc) else .str "no day"
theorem none_in (x : Str) : decide ((⟨none⟩ : DayD) ∈ rowD x) = !rowOk x := by
  cases h : rowOk x with
  | true =>
    refine decide_eq_false fun m => ?_
    unfold rowD at m
    obtain ⟨y, hy, e⟩ := List.mem_map.mp m
    have := List.all_eq_true.mp h y hy
    have e : readP y = none := congrArg DayD.d e
    rw [e] at this
    cases this
  | false =>
    refine decide_eq_true ?_
    obtain ⟨y, hy, e⟩ := List.all_eq_false.mp h
    refine List.mem_map.mpr ⟨y, hy, ?_⟩
    cases q : readP y with
    | none => rfl
    | some l => rw [q] at e; exact (e rfl).elim
theorem is_tup {l : List W} : opCmp .Is (.tup l) .non = some false := rfl
theorem is_non : opCmp .Is .non .non = some true := by kernel_rfl
section
variable [Sys] [IsB] {S : Store}
theorem ix04 {ds : List Int} (dr : ∀ d ∈ ds, Drawn d) {j : Int} (h0 : 0 ≤ j) (h1 : j < (ds.length : Int)) : ∃ d : Int, Drawn d ∧ fIx (.lst (ds.map .int)) (.int j) = some (.val (.int d)) := ⟨_, drawn_get dr j.toNat, ix_ints h0 h1⟩
theorem st04_0 [R__law_draws] {k : Nat} {ns : List Int} : ∃ ds : List Int, ds.length = 40 ∧ (∀ d ∈ ds, Drawn d) ∧ law_s0 (CC (k + 1)) [.val (.lst (ns.map .int)), .no, .no, .no, .no, .no, .no, .no, .no, .no, .no] S = .nx [.val (.lst (ns.map .int)), .own (.lst (ds.map .int)), .no, .no, .no, .no, .no, .no, .no, .no, .no] S := by
  obtain ⟨ds, hl, dr, ed⟩ := draws_ok (k := k) (S := S) ns (m := 40) (by decide)
  have ed : CC (k + 1) "_law_draws" [.lst (ns.map .int), .int 40] S = .ok (.own (.lst (ds.map .int))) S := ed
  exact ⟨ds, hl, dr, by simp [law_s0, dVar_eq, ed]⟩
theorem st04_1 {F : Str → CF} {ns ds : List Int} : law_s1 F [.val (.lst (ns.map .int)), .own (.lst (ds.map .int)), .no, .no, .no, .no, .no, .no, .no, .no, .no] S = .nx [.val (.lst (ns.map .int)), .own (.lst (ds.map .int)), .own (.lst []), .no, .no, .no, .no, .no, .no, .no, .no] S := by
  simp [law_s1, seqLine]
theorem line_turn [R__law_name_by] [R__law_deeds] {k : Nat} {ns ds : List Int} {ls : List Str} {t8 : Sl} (hl : ds.length = 40) (dr : ∀ d ∈ ds, Drawn d) {j : Int} (j0 : 0 ≤ j) (j4 : j < 4) (lz : ls.length ≤ 10) (p8 : t8.isPk = false) :
    ∃ (y : Str) (u8 : Sl), u8.isPk = false ∧ Bd 80 3 y ∧ l_law_0 (CC (k + 2)) [.val (.lst (ns.map .int)), .own (.lst (ds.map .int)), .own (.lst (ls.map .str)), .val (.int j), .no, .no, .no, .no, t8, .no, .no] S = .nx [.val (.lst (ns.map .int)), .own (.lst (ds.map .int)), .own (.lst ((ls ++ [y]).map .str)), .val (.int j), .no, .no, .no, .no, u8, .no, .no] S := by
  obtain ⟨x, D, e31⟩ := ix04 dr (j := 31 + j) (by omega) (by omega)
  obtain ⟨i, rfl⟩ := Int.eq_ofNat_of_zero_le j0
  have r0 : 0 ≤ x % 4 := Int.emod_nonneg _ (by decide)
  have r1 : x % 4 < 4 := Int.emod_lt_of_pos _ (by decide)
  have lm : (ds.map W.int).length = 40 := by rw [List.length_map, hl]
  have c1 : cutW (ds.map W.int) none (some 2) = (ds.map W.int).take 2 := cut_take (i := 2) (by omega)
  have c2 : cutW (ds.map W.int) (some (3 + 5 * (i : Int))) none = (ds.map W.int).drop (3 + 5 * i) := cut_from (i := 3 + 5 * i) (by omega)
  have em : (ds.map W.int).take 2 ++ (ds.map W.int).drop (3 + 5 * i) = (ds.take 2 ++ ds.drop (3 + 5 * i)).map .int := by simp
  have a1 : opAdd (.lst ((ds.map W.int).take 2)) (.lst ((ds.map W.int).drop (3 + 5 * i))) = some (.own (.lst ((ds.take 2 ++ ds.drop (3 + 5 * i)).map .int))) := by
    rw [← em]; exact opAdd_lst (by simp; omega)
  obtain ⟨l, ok, nd, ll, _, el⟩ := deeds_ok (k := k) (S := S) (ds := ds.take 2 ++ ds.drop (3 + 5 * i)) (m := 1 + x % 4) (fun d hd => by
    rcases List.mem_append.mp hd with hd | hd
    · exact dr d (List.mem_of_mem_take hd)
    · exact dr d (List.mem_of_mem_drop hd)) (by simp; omega) (by omega) (by simp; omega) (by omega)
  generalize ds.take 2 ++ ds.drop (3 + 5 * i) = M at a1 el
  have m5 : opMul (.int 5) (.int (i : Int)) = some (.val (.int (5 * (i : Int)))) := opMul_l (by decide) (by decide)
  have app : ∀ w : W, mApp (.lst (ls.map .str)) [.val w] = some (.non, .lst (ls.map .str ++ [w])) := fun w => if_pos (by rw [List.length_map]; show _ < 1000000; omega)
  have hc := dLc_m1 (di := iSeqP (dPeek 8)) (i := 10) (te := dMeth "str" pJoin (dConst (.str " ")) (dCons (dPeek 10) dNil)) (fun w => match w with | .tup [.str a, .str b] => .str (deedT (a, b)) | _ => .non) (ws := l.map (enc : Deed → W)) (x := .pk (.lst (l.map enc))) (τ := [.val (.lst (ns.map .int)), .own (.lst (ds.map .int)), .own (.lst (ls.map .str)), .val (.int (i : Int)), .no, .no, .no, .no, .own (.lst (l.map enc)), .no, .no]) (S := S) (by simp) rfl (by simp) (by simp [dPeek_eq] <;> rfl) (fun w hw => by
      obtain ⟨p, hp, rfl⟩ := List.mem_map.mp hw
      have h1 := name_len (ok p hp).1
      have h2 := name_len (ok p hp).2
      have j : pJoin (.str " ") [.tup [.str p.1, .str p.2]] = some (.val (.str (deedT p))) := pJoin_tup (l := [p.1, p.2]) (by
        show p.1.length + (p.2.length + 0) + 2 * 1 ≤ 4194304
        omega)
      have ee : (enc p : W) = .tup [.str p.1, .str p.2] := rfl
      rw [ee]
      simp [dPeek_eq, j]) (by rw [List.length_map]; exact line_le (by omega))
  have e2 : (l.map (enc : Deed → W)).map (fun w => match w with | .tup [.str a, .str b] => W.str (deedT (a, b)) | _ => .non) = (l.map deedT).map .str := by
    rw [List.map_map, List.map_map] <;> rfl
  rw [e2] at hc
  have bj := Bd.join (l := l.map deedT) (n := 17) (c := 0) (bd_of (n := 2) (c := 1) (x := ", ") (by decide +kernel)) fun y hy => by
    obtain ⟨p, hp, rfl⟩ := List.mem_map.mp hy
    exact Bd.deed (ok p hp)
  have sm := sum_of (l := l.map deedT) (n := 17) fun x hx => by
    obtain ⟨p, hp, rfl⟩ := List.mem_map.mp hx
    exact deedT_len (ok p hp)
  rw [List.length_map] at bj sm
  have jn : pJoin (.str ", ") [.lst ((l.map deedT).map .str)] = some (.val (.str (Txt.join ", " (l.map deedT)))) := pJoin_lst (by
    rw [List.length_map]
    show _ + l.length * 2 ≤ 4194304
    omega)
  rw [txt_join] at jn
  generalize Str.join ", " (l.map deedT) = jt at bj jn
  have bj : Bd 80 3 jt := bj.mono (by omega) (by omega)
  generalize (l.map deedT).map W.str = tw at hc jn
  generalize l.map (enc : Deed → W) = lw at hc el
  have eqi : ∀ a b : Int, opCmp .Eq (.int a) (.int b) = some (decide (a = b)) := fun a b => opEq_enc (α := Int) (by decide)
  by_cases c : x / 4 % 5 = 1
  · have ix : fIx (.lst [.str jt, .str "-"]) (.int 1) = some (.val (.str "-")) := fIx_lst (i := 1) rfl
    refine ⟨"-", .own (.lst lw), rfl, (bd_of (n := 1) (c := 0) (by decide +kernel)).mono (by omega) (by omega), ?_⟩
    have ew : (ls ++ [("-" : Str)]).map W.str = ls.map .str ++ [W.str "-"] := by simp
    rw [ew]
    simp [-List.map_map, -List.map_append, l_law_0, dPeek_eq, dVar_eq, dMut_eq, c1, c2, a1, e31, el, m5, app, hc, jn, c, ix, p8, seqLine]
  · have ix : fIx (.lst [.str jt, .str "-"]) (.int 0) = some (.val (.str jt)) := fIx_lst (i := 0) rfl
    refine ⟨jt, .own (.lst lw), rfl, bj, ?_⟩
    have ew : (ls ++ [jt]).map W.str = ls.map .str ++ [W.str jt] := by simp
    rw [ew]
    have c' : (x / 4 % 5 == 1) = false := by simpa using c
    simp [-List.map_map, -List.map_append, l_law_0, dPeek_eq, dVar_eq, dMut_eq, c1, c2, a1, e31, el, m5, app, hc, jn, c', ix, p8, seqLine]
theorem line_loop [R__law_name_by] [R__law_deeds] {k : Nat} {ns ds : List Int} (hl : ds.length = 40) (dr : ∀ d ∈ ds, Drawn d) : ∀ (js : List Int) (ls : List Str) (t3 t8 : Sl), (∀ j ∈ js, 0 ≤ j ∧ j < 4) → ls.length + js.length ≤ 5 → (∀ y ∈ ls, Bd 80 3 y) → t8.isPk = false → t3.isPk = false →
    ∃ (ls' : List Str) (u3 u8 : Sl), u8.isPk = false ∧ u3.isPk = false ∧ ls'.length = ls.length + js.length ∧ (∀ y ∈ ls', Bd 80 3 y) ∧ dLoop (gTg (.one 3)) (l_law_0 (CC (k + 2))) (js.map .int) [.val (.lst (ns.map .int)), .own (.lst (ds.map .int)), .own (.lst (ls.map .str)), t3, .no, .no, .no, .no, t8, .no, .no] S = .nx [.val (.lst (ns.map .int)), .own (.lst (ds.map .int)), .own (.lst (ls'.map .str)), u3, .no, .no, .no, .no, u8, .no, .no] S
  | [], ls, t3, t8, _, _, b, p8, p3 => ⟨ls, t3, t8, p8, p3, by simp, b, by simp⟩
  | j :: js, ls, t3, t8, hj, hz, b, p8, p3 => by
    rw [List.length_cons] at hz
    obtain ⟨y, u8, q8, by_, e⟩ := line_turn (k := k) (S := S) (ns := ns) (ls := ls) (t8 := t8) hl dr (hj j List.mem_cons_self).1 (hj j List.mem_cons_self).2 (by omega) p8
    obtain ⟨ls', u3, v8, r8, r3, ln, bl, e2⟩ := line_loop hl dr js (ls ++ [y]) (.val (.int j)) u8 (fun i hi => hj i (List.mem_cons_of_mem _ hi)) (by rw [List.length_append, List.length_singleton]; omega) (fun z hz => by
      rcases List.mem_append.mp hz with hz | hz
      · exact b z hz
      · rw [List.mem_singleton.mp hz]; exact by_) q8 rfl
    refine ⟨ls', u3, v8, r8, r3, by rw [ln, List.length_append, List.length_singleton, List.length_cons]; omega, bl, ?_⟩
    rw [List.map_cons]
    conv => lhs; unfold dLoop
    simp only [gTg_one, gSet_val, List.set_cons_succ, List.set_cons_zero]
    rw [e]
    exact e2
theorem st04_2 [R__law_name_by] [R__law_deeds] {k : Nat} {ns ds : List Int} (hl : ds.length = 40) (dr : ∀ d ∈ ds, Drawn d) : ∃ (ls : List Str) (t3 t8 : Sl), t8.isPk = false ∧ t3.isPk = false ∧ ls.length ≤ 4 ∧ (∀ y ∈ ls, Bd 80 3 y) ∧ law_s2 (CC (k + 2)) [.val (.lst (ns.map .int)), .own (.lst (ds.map .int)), .own (.lst []), .no, .no, .no, .no, .no, .no, .no, .no] S = .nx [.val (.lst (ns.map .int)), .own (.lst (ds.map .int)), .own (.lst (ls.map .str)), t3, .no, .no, .no, .no, t8, .no, .no] S := by
  obtain ⟨d, D, i30⟩ := ix04 dr (j := 30) (by omega) (by omega)
  have r0 : 0 ≤ d % 4 := Int.emod_nonneg _ (by decide)
  have r1 : d % 4 < 4 := Int.emod_lt_of_pos _ (by decide)
  have hr := rng1_ok (j := 1 + d % 4) (by omega) (by omega)
  obtain ⟨ls, u3, u8, p8, p3, ln, bl, e⟩ := line_loop (k := k) (S := S) (ns := ns) hl dr (intsTo (1 + d % 4).toNat) [] .no .no (fun j hj => by
    unfold intsTo at hj
    obtain ⟨i, hi, rfl⟩ := List.mem_map.mp hj
    have := List.mem_range.mp hi
    omega) (by unfold intsTo; rw [List.length_map, List.length_range]; show 0 + _ ≤ 5; omega) (fun y hy => by cases hy) rfl rfl
  rw [show (intsTo (1 + d % 4).toNat).map W.int = upTo 0 (1 + d % 4).toNat from (upTo_eq _).symm] at e
  unfold intsTo at ln
  rw [List.length_map, List.length_range] at ln
  refine ⟨ls, u3, u8, p8, p3, by rw [ln]; show 0 + _ ≤ 4; omega, bl, ?_⟩
  generalize ls.map W.str = lw at e ⊢
  have e : dLoop (gTg (.one 3)) (l_law_0 (CC (k + 2))) (upTo 0 (1 + d % 4).toNat) [.val (.lst (ns.map .int)), .own (.lst (ds.map .int)), .own (.lst []), .no, .no, .no, .no, .no, .no, .no, .no] S = _ := e
  simp [law_s2, dPeek_eq, i30, hr, e]
theorem st04_3 [R__law_spoilt] {k : Nat} {ns ds : List Int} {ls : List Str} {t3 t8 : Sl} (hl : ds.length = 40) (dr : ∀ d ∈ ds, Drawn d) (lz : ls.length ≤ 4) (bl : ∀ y ∈ ls, Bd 80 3 y) (p8 : t8.isPk = false) (p3 : t3.isPk = false) :
    ∃ x : Str, Bd 850 25 x ∧ law_s3 (CC (k + 1)) [.val (.lst (ns.map .int)), .own (.lst (ds.map .int)), .own (.lst (ls.map .str)), t3, .no, .no, .no, .no, t8, .no, .no] S = .nx [.val (.lst (ns.map .int)), .own (.lst (ds.map .int)), .own (.lst (ls.map .str)), t3, .val (.str x), .no, .no, .no, t8, .no, .no] S := by
  obtain ⟨d, D, i36⟩ := ix04 dr (j := 36) (by omega) (by omega)
  have bj := Bd.join (bd_of (n := 1) (c := 0) (x := "\n") (by decide +kernel)) bl
  have sm := sum_of (l := ls) (n := 80) fun y hy => (bl y hy).len
  have jn : pJoin (.str "\n") [.lst (ls.map .str)] = some (.val (.str (Txt.join "\n" ls))) := pJoin_lst (by show _ + ls.length * 1 ≤ 4194304; omega)
  rw [txt_join] at jn
  generalize Str.join "\n" ls = jt at bj jn
  have b2 : Bd 325 12 (jt ++ "\n") := (bj.app (bd_of (n := 1) (c := 0) (x := "\n") (by decide +kernel))).mono (by omega) (by omega)
  have a1 : opAdd (.str jt) (.str "\n") = some (.val (.str (jt ++ "\n"))) := opAdd_str (by have := bj.len; show jt.length + 1 ≤ 1000000; omega)
  obtain ⟨x, bx, e⟩ := spoilt_ok (k := k) (S := S) b2 (by decide) (by decide) D
  refine ⟨x, bx.mono (by omega) (by omega), ?_⟩
  generalize ls.map W.str = lw at jn ⊢
  simp [law_s3, dPeek_eq, dVar_eq, i36, jn, a1, e]
theorem st04_4 [R__law_spoilt] {k : Nat} {ns ds : List Int} {ls : List Str} {t3 t8 : Sl} {x0 : Str} (hl : ds.length = 40) (dr : ∀ d ∈ ds, Drawn d) (b : Bd 850 25 x0) :
    ∃ x : Str, Cm x ∧ law_s4 (CC (k + 1)) [.val (.lst (ns.map .int)), .own (.lst (ds.map .int)), .own (.lst (ls.map .str)), t3, .val (.str x0), .no, .no, .no, t8, .no, .no] S = .nx [.val (.lst (ns.map .int)), .own (.lst (ds.map .int)), .own (.lst (ls.map .str)), t3, .val (.str x), .no, .no, .no, t8, .no, .no] S := by
  obtain ⟨d, D, i37⟩ := ix04 dr (j := 37) (by omega) (by omega)
  obtain ⟨f, E, i38⟩ := ix04 dr (j := 38) (by omega) (by omega)
  by_cases c : d % 4 = 1
  · obtain ⟨x, bx, e⟩ := spoilt_ok (k := k) (S := S) b (by decide) (by decide) E
    refine ⟨x, bx.cm (by decide) (by decide), ?_⟩
    simp [law_s4, dPeek_eq, dVar_eq, i37, i38, c, e]
  · refine ⟨x0, b.cm (by decide) (by decide), ?_⟩
    have c' : (d % 4 == 1) = false := by simpa using c
    simp [law_s4, dPeek_eq, i37, c']
theorem st04_5 [R__law_words] [R__law_is_name] [R__law_read] {k : Nat} {ns ds : List Int} {ls : List Str} {t3 t8 : Sl} {x : Str} (h : Cm x) (p8 : t8.isPk = false) (p3 : t3.isPk = false) :
    law_s5 (CC (k + 2)) [.val (.lst (ns.map .int)), .own (.lst (ds.map .int)), .own (.lst (ls.map .str)), t3, .val (.str x), .no, .no, .no, t8, .no, .no] S = .nx [.val (.lst (ns.map .int)), .own (.lst (ds.map .int)), .own (.lst (ls.map .str)), t3, .val (.str x), .own (.lst ((rowD x).map enc)), .no, .no, t8, .no, .no] S := by
  have nl := split_nl h.ok
  have many := parts_many h.ok 10
  have hl := h.line
  unfold linesT at hl
  have hc := dLc_fm1 (di := iSeq (dMeth "str" pSplit (dPeek 4) (dCons (dConst (.str "\n")) dNil))) (i := 7) (tt := dCmpT (opCmp .NotEq) (dCallF (CC (k + 2) "_law_words") (dCons (dKeep (dVar 7)) dNil)) (dLst dNil)) (te := dCallF (CC (k + 2) "_law_read") (dCons (dKeep (dVar 7)) dNil))
    (fun w => match w with | .str y => !decide (wordsT y = []) | _ => false) (fun w => match w with | .str y => dayO (readP y) | _ => .non) (ws := ((splitL 10 x.cps.toList).map sgn).map .str) (x := .val (.lst (((splitL 10 x.cps.toList).map sgn).map .str))) (τ := [.val (.lst (ns.map .int)), .own (.lst (ds.map .int)), .own (.lst (ls.map .str)), t3, .val (.str x), .no, .no, .no, t8, .no, .no]) (S := S) (by simp) rfl (by simp [p8, p3])
    (by simp [-List.map_map, dPeek_eq, nl]) (fun w hw => by
      obtain ⟨y, hy, rfl⟩ := List.mem_map.mp hw
      have q := lwords_ok (k := k + 1) (S := S) (hl y hy).ok
      have e : opCmp .NotEq (.lst ((wordsT y).map .str)) (.lst []) = some (!decide (wordsT y = [])) := opNe_enc (α := List Str) (b := []) (by decide)
      generalize (wordsT y).map W.str = wv at q e
      simp [dVar_eq, q, e]) (fun w hw _ => by
      obtain ⟨y, hy, rfl⟩ := List.mem_map.mp hw
      have q := law_read_ok (k := k) (S := S) (hl y hy).tx
      simp [dVar_eq, q]) (by rw [List.length_map]; exact line_le (by omega))
  have e1 : ((((splitL 10 x.cps.toList).map sgn).map W.str).filter (fun w => match w with | .str y => !decide (wordsT y = []) | _ => false)) = (rowsT x).map .str := by
    unfold rowsT linesT
    rw [List.filter_map] <;> rfl
  have e3 : ((rowsT x).map W.str).map (fun w => match w with | .str y => dayO (readP y) | _ => .non) = (rowD x).map enc := by
    unfold rowD
    rw [List.map_map, List.map_map] <;> rfl
  rw [e1, e3] at hc
  generalize (rowD x).map (enc : DayD → W) = rw_ at hc ⊢
  simp [law_s5, hc]
theorem st04_6 {F : Str → CF} {ns ds : List Int} {ls : List Str} {t3 t8 : Sl} {x : Str} : law_s6 F [.val (.lst (ns.map .int)), .own (.lst (ds.map .int)), .own (.lst (ls.map .str)), t3, .val (.str x), .own (.lst ((rowD x).map enc)), .no, .no, t8, .no, .no] S = .nx [.val (.lst (ns.map .int)), .own (.lst (ds.map .int)), .own (.lst (ls.map .str)), t3, .val (.str x), .val (.lst ((rowD x).map enc)), .val (dueW x), .no, t8, .no, .no] S := by
  have e : opCmp .In .non (.lst ((rowD x).map enc)) = some (decide ((⟨none⟩ : DayD) ∈ rowD x)) := isIn_lst (α := DayD) (a := ⟨none⟩) (by decide)
  rw [none_in] at e
  unfold dueW
  generalize (rowD x).map (enc : DayD → W) = rw_ at e ⊢
  cases h : rowOk x with
  | true =>
    rw [h] at e
    have ix : fIx (.lst [.lst rw_, .str "no day"]) (.int 0) = some (.val (.lst rw_)) := fIx_lst (i := 0) rfl
    simp [law_s6, dPeek_eq, dVar_eq, e, ix, seqLine]
  | false =>
    rw [h] at e
    have ix : fIx (.lst [.lst rw_, .str "no day"]) (.int 1) = some (.val (.str "no day")) := fIx_lst (i := 1) rfl
    simp [law_s6, dPeek_eq, dVar_eq, e, ix, seqLine]
theorem st04_7 [ISX] [R__law_class] [R__law_asked] [R_kept_words] [R_is_name] [R_is_deed] [R_day_of] [R_words_of_days] [R_read_day] [R_read_row] {k : Nat} {ns ds : List Int} {ls : List Str} {t3 t8 : Sl} {x : Str} (h : Cm x) : law_s7 (CC (k + 7)) [.val (.lst (ns.map .int)), .own (.lst (ds.map .int)), .own (.lst (ls.map .str)), t3, .val (.str x), .val (.lst ((rowD x).map enc)), .val (dueW x), .no, t8, .no, .no] S = .nx [.val (.lst (ns.map .int)), .own (.lst (ds.map .int)), .own (.lst (ls.map .str)), t3, .val (.str x), .val (.lst ((rowD x).map enc)), .val (dueW x), .no, t8, .no, .no] S := by
  have q := asked0 (k := k) (S := S) h
  have n1 : opCmp .NotEq (.lst ((rowD x).map enc)) (.lst ((rowD x).map enc)) = some false := opNe_yes (α := List DayD) (a := rowD x) (by decide) rfl
  have n2 : opCmp .NotEq (.str "no day") (.str "no day") = some false := opNe_yes (α := Str) (by decide) rfl
  unfold dueW
  generalize (rowD x).map (enc : DayD → W) = rw_ at q n1 ⊢
  cases c : rowOk x with
  | true =>
    rw [c, if_pos rfl] at q
    simp [law_s7, dPeek_eq, dVar_eq, q, n1]
  | false =>
    rw [c, if_neg (by simp)] at q
    simp [law_s7, dPeek_eq, dVar_eq, q, n2]
theorem ask_turn [ISX] [R__law_class] [R__law_asked] [R_kept_words] [R_is_name] [R_is_deed] [R_day_of] [R_words_of_days] [R_read_day] [R__law_words] [R__law_is_name] [R__law_read] {k : Nat} {s0 s1 s2 s3 s4 s5 s6 s8 s9 s10 : Sl} {y : Str} (h : Tx y) :
    ∃ u9 : Sl, l_law_1 (CC (k + 7)) [s0, s1, s2, s3, s4, s5, s6, .val (.str y), s8, s9, s10] S = .nx [s0, s1, s2, s3, s4, s5, s6, .val (.str y), s8, u9, s10] S := by
  have q := law_read_ok (k := k + 5) (S := S) h
  have a := asked1 (k := k) (S := S) h
  have q : CC (k + 7) "_law_read" [.str y] S = .ok (.val (dayO (readP y))) S := q
  cases e : readP y with
  | some l =>
    rw [e] at q a
    have n1 : opCmp .NotEq (.tup (l.map enc)) (.tup (l.map enc)) = some false := opNe_yes (α := Tup Deed) (a := ⟨l⟩) (by decide) rfl
    have q : CC (k + 7) "_law_read" [.str y] S = .ok (.val (.tup (l.map enc))) S := q
    have a : CC (k + 7) "_law_asked" [.int 1, .str y] S = .ok (.val (.tup (l.map enc))) S := a
    generalize l.map (enc : Deed → W) = lw at q a n1
    exact ⟨.val (.tup lw), by simp [l_law_1, dPeek_eq, dVar_eq, q, a, n1, is_tup]⟩
  | none =>
    rw [e] at q a
    have n2 : opCmp .NotEq (.str "no day") (.str "no day") = some false := opNe_yes (α := Str) (by decide) rfl
    have q : CC (k + 7) "_law_read" [.str y] S = .ok (.val .non) S := q
    have a : CC (k + 7) "_law_asked" [.int 1, .str y] S = .ok (.val (.str "no day")) S := a
    exact ⟨.val (.str "no day"), by simp [l_law_1, dPeek_eq, dVar_eq, q, a, n2, is_non]⟩
theorem ask_loop [ISX] [R__law_class] [R__law_asked] [R_kept_words] [R_is_name] [R_is_deed] [R_day_of] [R_words_of_days] [R_read_day] [R__law_words] [R__law_is_name] [R__law_read] {k : Nat} {s0 s1 s2 s3 s4 s5 s6 s8 s10 : Sl} : ∀ (ys : List Str) (s7 s9 : Sl), (∀ y ∈ ys, Tx y) →
    ∃ u7 u9 : Sl, dLoop (gTg (.one 7)) (l_law_1 (CC (k + 7))) (ys.map .str) [s0, s1, s2, s3, s4, s5, s6, s7, s8, s9, s10] S = .nx [s0, s1, s2, s3, s4, s5, s6, u7, s8, u9, s10] S
  | [], s7, s9, _ => ⟨s7, s9, by simp⟩
  | y :: ys, s7, s9, h => by
    obtain ⟨u9, e⟩ := ask_turn (k := k) (S := S) (s0 := s0) (s1 := s1) (s2 := s2) (s3 := s3) (s4 := s4) (s5 := s5) (s6 := s6) (s8 := s8) (s9 := s9) (s10 := s10) (h y List.mem_cons_self)
    obtain ⟨v7, v9, e2⟩ := ask_loop ys (.val (.str y)) u9 fun z hz => h z (List.mem_cons_of_mem _ hz)
    refine ⟨v7, v9, ?_⟩
    rw [List.map_cons]
    conv => lhs; unfold dLoop
    simp only [gTg_one, gSet_val, List.set_cons_succ, List.set_cons_zero]
    rw [e]
    exact e2
theorem st04_8 [ISX] [R__law_class] [R__law_asked] [R_kept_words] [R_is_name] [R_is_deed] [R_day_of] [R_words_of_days] [R_read_day] [R__law_words] [R__law_is_name] [R__law_read] {k : Nat} {s0 s1 s2 s3 s5 s6 s8 : Sl} {x : Str} (h : Cm x) :
    ∃ u7 u9 : Sl, law_s8 (CC (k + 7)) [s0, s1, s2, s3, .val (.str x), s5, s6, .no, s8, .no, .no] S = .nx [s0, s1, s2, s3, .val (.str x), s5, s6, u7, s8, u9, .no] S := by
  have nl := split_nl h.ok
  have many := parts_many h.ok 10
  have hl := h.line
  unfold linesT at hl
  obtain ⟨u7, u9, e⟩ := ask_loop (k := k) (S := S) (s0 := s0) (s1 := s1) (s2 := s2) (s3 := s3) (s4 := .val (.str x)) (s5 := s5) (s6 := s6) (s8 := s8) (s10 := .no) (((splitL 10 x.cps.toList).map sgn) ++ [x]) .no .no (fun y hy => by
    rcases List.mem_append.mp hy with hy | hy
    · exact (hl y hy).tx
    · rw [List.mem_singleton.mp hy]; exact h.tx)
  have a1 : opAdd (.lst (((splitL 10 x.cps.toList).map sgn).map .str)) (.lst [.str x]) = some (.own (.lst ((((splitL 10 x.cps.toList).map sgn) ++ [x]).map .str))) := by
    rw [List.map_append]
    exact opAdd_lst (by rw [List.length_map]; show _ + 1 ≤ 1000000; omega)
  refine ⟨u7, u9, ?_⟩
  generalize (((splitL 10 x.cps.toList).map sgn) ++ [x]).map W.str = aw at e a1
  generalize ((splitL 10 x.cps.toList).map sgn).map W.str = nw at nl a1
  simp [law_s8, dPeek_eq, dVar_eq, nl, a1, e, seqLine]
omit [IsB] in
theorem law_ok [RALL] (ns : List Int) (h : ns.length ≤ 63) : ∃ S', CC 20 "law" [.lst (ns.map .int)] S0 = .ok (.val (.bl true)) S' := by
  refine ⟨S0, ?_⟩
  generalize S0 = S
  rw [R_law.run_law]
  obtain ⟨ds, hl, dr, e0⟩ := st04_0 (S := S) (k := 18) (ns := ns)
  have e1 := st04_1 (S := S) (F := CC 19) (ns := ns) (ds := ds)
  obtain ⟨ls, t3, t8, p8, p3, lz, bl, e2⟩ := st04_2 (S := S) (k := 17) (ns := ns) hl dr
  obtain ⟨x0, b0, e3⟩ := st04_3 (S := S) (k := 18) (ns := ns) (t3 := t3) (t8 := t8) hl dr lz bl p8 p3
  obtain ⟨x, hx, e4⟩ := st04_4 (S := S) (k := 18) (ns := ns) (ls := ls) (t3 := t3) (t8 := t8) hl dr b0
  have e5 := st04_5 (S := S) (k := 17) (ns := ns) (ds := ds) (ls := ls) (t3 := t3) (t8 := t8) hx p8 p3
  have e6 := st04_6 (S := S) (F := CC 19) (ns := ns) (ds := ds) (ls := ls) (t3 := t3) (t8 := t8) (x := x)
  have e7 := st04_7 (S := S) (k := 12) (ns := ns) (ds := ds) (ls := ls) (t3 := t3) (t8 := t8) hx
  obtain ⟨u7, u9, e8⟩ := st04_8 (S := S) (k := 12) (s0 := .val (.lst (ns.map .int))) (s1 := .own (.lst (ds.map .int))) (s2 := .own (.lst (ls.map .str))) (s3 := t3) (s5 := .val (.lst ((rowD x).map enc))) (s6 := .val (dueW x)) (s8 := t8) hx
  unfold b_law
  rw [law_t0, seq_nx e0, law_t1, seq_nx e1, law_t2, seq_nx e2, law_t3, seq_nx e3, law_t4, seq_nx e4, law_t5, seq_nx e5, law_t6, seq_nx e6, law_t7, seq_nx e7, law_t8, seq_nx e8] <;> rfl
end
end VM

set_option Elab.async false
set_option linter.all false
open PySem PySem.W PySem.Calls PyProof.Rows
set_option maxRecDepth 100000 in
set_option maxHeartbeats 8000000 in
theorem PySem.Challenge.cw_pacthall_k04_texts_refused_holds : PySem.Challenge.rw_pacthall_k04_texts_refused.Holds := by
  w_on; o_law
  refine HandSHeadRun.head_any (r := OpenLaw.row PySem.Challenge.rw_pacthall_k04_texts_refused) (q := view (OpenLaw.row PySem.Challenge.rw_pacthall_k04_texts_refused).prog [32]) (H := LawK04.hk) (ob := LawK04.ob) (M := 3000) (loose := LawK04.loose) (d := HandSHeadRun.topDef (OpenLaw.row PySem.Challenge.rw_pacthall_k04_texts_refused).prog 32) (kwd := []) LawK04.ob_eq
    (by kernel_rfl) (fun s => by kernel_rfl) LawK04.run (by kernel_rfl) (by kernel_rfl) (by kernel_rfl) (by rfl) (by first | assumption | decide +kernel) (by decide +kernel) ⟨rfl, rfl, rfl, rfl, rfl, by decide +kernel⟩ ?hw ?hc
  case hw => w_witness2
  case hc =>
    exact VM.walk_V (T := LawK04.T) (l := PySem.Challenge.rw_pacthall_k04_texts_refused) (n := 63) (k := 20) (x := "_law_script") (dl := LawK04.d0) (as := LawK04.adrs) rfl (by decide) (by kernel_rfl) ⟨rfl, by decide, by decide⟩ LawK04.fine (by kernel_rfl) rfl (fun V ns h => @VM.law_ok (LawK04.sys V) (LawK04.rall V) ns h)
