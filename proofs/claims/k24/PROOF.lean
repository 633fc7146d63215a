import PyProof.Rows.All
import Wide.All
import OpenK.AllK
import Wide.FinOn
import HandS.ForMost
import HandS.TupSets
import KE.SortData
import HandS.SetFor
import HandS.Strs
import HandS.Style
import HandS.SetKeys
import HandS.DictComp
import HandS.DictEq
import HandS.Conv
import HandS.More
import HandS.Wide
import HandS.SortInts
import PySem.Challenge.RW_loopsaid_k24_cycles_among_arrows
import HandS.Codes
import HandS.Walk
import PyProof.ReprLen
import HandS.Ends
set_option Elab.async false
set_option linter.all false
set_option maxRecDepth 100000
set_option maxHeartbeats 4000000
/-! Sets of heap keys (flat tuples of ints and texts), up to 76 members: own port for any kind of key. -/
namespace KS
open PySem PySem.Spec PyProof.Rows L2

/-- what a set asks of its members -/
structure SKind (P : Program) (w : World) (K : Type) [DecidableEq K] where
  is : Heap → K → Addr → Prop
  hash : K → Int
  draws : K → Nat
  inj : ∀ {h : Heap} {a : Addr} {x y : K}, is h x a → is h y a → x = y
  tup : ∀ {h : Heap} {a : Addr} {x : K}, is h x a → ∃ o its n, h.get? a = some o ∧ o.data = .seq its n
  keep : ∀ {h h' : Heap} {a : Addr} {x : K}, is h x a → (∀ b o its n, h.get? b = some o → o.data = .seq its n → h'.get? b = some o) → is h' x a
  hashed : ∀ {A : Around} {E : Value → Shared → Prop} {s : Shared} {k : K} {a : Addr} {Q : Int → Shared → Prop}, A.units < cLine → is s.heap k a →
    Q (hash k) { s with toks := s.toks + draws k } → wpAny (model P w) A (pyHash (.ref a)) Q E s
  eqs : ∀ {A : Around} {E : Value → Shared → Prop} {s : Shared} {x y : K} {a b : Addr} {Q : Bool → Shared → Prop}, A.units < cLine → is s.heap x a → is s.heap y b →
    Q (decide (x = y)) s → wpAny (model P w) A (eqBool (.ref a) (.ref b)) Q E s
  quiet : ∀ {A : Around} {E : Value → Shared → Prop} {s : Shared} {k : K} {a : Addr} {Q : Bool → Shared → Prop}, is s.heap k a → Q true s → wpAny (model P w) A (eqIsQuiet 8 (.ref a)) Q E s
  noStmt : ∀ {A : Around} {E : Value → Shared → Prop} {s : Shared} {k : K} {a : Addr} {Q : Bool → Shared → Prop}, is s.heap k a → Q false s → wpAny (model P w) A (ofAClassStatement 8 (.ref a)) Q E s
  byVal : ∀ {A : Around} {E : Value → Shared → Prop} {s : Shared} {k : K} {a : Addr} {Q : Bool → Shared → Prop}, is s.heap k a → (∀ b, Q b s) → wpAny (model P w) A (hashByValue 8 (.ref a)) Q E s

section kinds
variable {P : Program} {w : World} {A : Around} {E : Value → Shared → Prop} {s : Shared}
theorem flat_vals {k : List Key} {vs : List Value} (h : ItemsAre (mixKind P w) k vs) : ∀ v ∈ vs, (∃ i t, v = Value.int i t) ∨ ∃ x t, v = Value.str x t := by
  induction h with
  | nil => intro v hv; cases hv
  | @cons k0 v0 ks vs0 h1 _ ih =>
    intro v hv
    rcases List.mem_cons.mp hv with rfl | hv
    · rcases keyIs_shape (show keyIs k0 v = true from h1) with ⟨i, t, _, e⟩ | ⟨x, t, _, e⟩
      · exact .inl ⟨i, t, e⟩
      · exact .inr ⟨x, t, e⟩
    · exact ih v hv
theorem stmt_flat (n : Nat) {v : Value} (h : (∃ i t, v = Value.int i t) ∨ ∃ x t, v = Value.str x t) : ofAClassStatement n v = pure false := by
  rcases h with ⟨i, t, rfl⟩ | ⟨x, t, rfl⟩ <;> cases n <;> rfl
theorem hash_flat (n : Nat) {v : Value} (h : (∃ i t, v = Value.int i t) ∨ ∃ x t, v = Value.str x t) : ∃ b, hashByValue n v = pure b := by
  rcases h with ⟨i, t, rfl⟩ | ⟨x, t, rfl⟩ <;> cases n <;> first | exact ⟨true, rfl⟩ | exact ⟨false, rfl⟩
/-- a loop over flat items that answers nothing -/
theorem loop_flat {β : Type} {items : Array Value} {b0 : β} {f : Value → β → Sem (ForInStep β)} {R : β → Shared → Prop} (good : β → Prop) (g0 : good b0)
    (hall : ∀ v ∈ items.toList, (∃ i t, v = Value.int i t) ∨ ∃ x t, v = Value.str x t)
    (step : ∀ v b (s' : Shared), ((∃ i t, v = Value.int i t) ∨ ∃ x t, v = Value.str x t) → good b → s' = s → wpAny (model P w) A (f v b) (fun r s2 => s2 = s ∧ ∃ c, r = .yield c ∧ good c) E s')
    (fin : ∀ b, good b → R b s) : wpAny (model P w) A (forIn items b0 f) R E s := by
  rw [← Array.forIn_toList]
  refine wpAny_forIn_list _ (fun rest r s' => good r ∧ s' = s ∧ ∀ v ∈ rest, (∃ i t, v = Value.int i t) ∨ ∃ x t, v = Value.str x t) _ ?_ ?_ _ _ ⟨g0, rfl, hall⟩
  · rintro v rest r s' ⟨hg, e, hr⟩
    refine wpAny_mono (step v r s' (hr v List.mem_cons_self) hg e) (fun q s2 hq => ?_) (fun _ _ z => z)
    obtain ⟨e2, c, rfl, gc⟩ := hq
    exact ⟨gc, e2, fun u hu => hr u (List.mem_cons_of_mem _ hu)⟩
  · rintro r s' ⟨hg, rfl, _⟩
    exact fin r hg
theorem no_stmt {k : List Key} {b : Addr} {Q : Bool → Shared → Prop} (hk : IsTupleKey (mixKind P w) s.heap k b) (h : Q false s) : wpAny (model P w) A (ofAClassStatement 8 (.ref b)) Q E s := by
  have hT := hk.typeIs
  obtain ⟨o, items, n, ho, _, hd, hi⟩ := hk
  unfold ofAClassStatement
  refine wpAny_bind (wpAny_typeOf hT ?_)
  dsimp only
  simp only [show (("tuple" : String) == "tuple") = true by decide, if_true, Bool.not_true, Bool.false_eq_true, if_false]
  try refine wpAny_bind (wpAny_pure ?_)
  try simp only [Bool.not_true, Bool.false_eq_true, if_false]
  refine wpAny_bind (wpAny_seqItems ho hd ?_)
  dsimp only
  refine wpAny_bind (loop_flat (fun r => r.1 = none) rfl (flat_vals hi) (fun v r s' hv hr e => ?_) (fun r hr => ?_))
  · subst e
    rw [stmt_flat _ hv]
    refine wpAny_bind (wpAny_pure ?_)
    simp only [Bool.false_eq_true, if_false]
    exact wpAny_pure ⟨rfl, _, rfl, rfl⟩
  · obtain ⟨r1, r2⟩ := r
    simp only at hr
    subst hr
    exact wpAny_pure h
theorem by_val {k : List Key} {b : Addr} {Q : Bool → Shared → Prop} (hk : IsTupleKey (mixKind P w) s.heap k b) (h : ∀ b, Q b s) : wpAny (model P w) A (hashByValue 8 (.ref b)) Q E s := by
  have hT := hk.typeIs
  obtain ⟨o, items, n, ho, _, hd, hi⟩ := hk
  unfold hashByValue
  refine wpAny_bind (wpAny_specialOf hT F.slot_tuple_hash.lookup ?_)
  show wpAny _ _ (seqItems? (.ref b) >>= _) _ _ s
  refine wpAny_bind (wpAny_seqItems ho hd ?_)
  refine wpAny_bind ?_
  show wpAny _ _ (forIn items _ _) _ _ s
  rw [← Array.forIn_toList]
  refine wpAny_forIn_list _ (fun rest r s' => r.1 = none ∧ s' = s ∧ ∀ v ∈ rest, (∃ i t, v = Value.int i t) ∨ ∃ x t, v = Value.str x t) _ ?_ ?_ _ _ ⟨rfl, rfl, flat_vals hi⟩
  · rintro v rest r s' ⟨hr, rfl, hall⟩
    obtain ⟨q, e⟩ := hash_flat 7 (hall v List.mem_cons_self)
    rw [e]
    refine wpAny_bind (wpAny_pure ?_)
    cases q
    · simp only [Bool.not_false, if_true]
      exact wpAny_pure (wpAny_pure (h false))
    · simp only [Bool.not_true, Bool.false_eq_true, if_false]
      exact wpAny_pure ⟨rfl, rfl, fun u hu' => hall u (List.mem_cons_of_mem _ hu')⟩
  · rintro ⟨r1, r2⟩ s' ⟨hr, rfl, _⟩
    simp only at hr
    subst hr
    exact wpAny_pure (h true)
end kinds

/-- flat tuples of ints and texts -/
def mix (P : Program) (w : World) : SKind P w (List Key) where
  is := IsTupleKey (mixKind P w)
  hash := tupleKeyHash (mixKind P w)
  draws := fun ks => ks.length + 1
  inj := fun hx hy => hx.inj hy
  tup := fun ⟨o, its, n, ho, _, hd, _⟩ => ⟨o, its, n, ho, hd⟩
  keep := fun ⟨o, its, n, ho, hc, hd, hi⟩ k => ⟨o, its, n, k _ _ _ _ ho hd, hc, hd, hi⟩
  hashed := fun hu hk h => wpAny_pyHash_tuple hu hk h
  eqs := fun hu hx hy h => wpAny_eqBool_tuple hu hx hy h
  quiet := fun hk h => wpAny_eqIsQuiet_tuple hk h
  noStmt := fun hk h => no_stmt hk h
  byVal := fun hk h => by_val hk h
end KS

namespace KS
open PySem PySem.Spec PyProof.Rows L2
section
variable {P : Program} {w : World} {A : Around} {E : Value → Shared → Prop} {s : Shared} {K : Type} [DecidableEq K] {κ : SKind P w K}

/-- a search among members shows nothing -/
theorem unseen {k : K} {b : Addr} {Q : Bool → Shared → Prop} (hk : κ.is s.heap k b) {ys : List Value} (hy : ∀ y ∈ ys, ∃ k' c, y = Value.ref c ∧ κ.is s.heap k' c) (h : Q false s) :
    wpAny (model P w) A (searchCouldBeSeen (.ref b) ys) Q E s := by
  unfold searchCouldBeSeen
  refine wpAny_bind (wpAny_forIn_list _ (fun rest r s' => r.1 = none ∧ s' = s ∧ ∀ y ∈ rest, ∃ k' c, y = Value.ref c ∧ κ.is s.heap k' c) _ ?_ ?_ _ _ ⟨rfl, rfl, hy⟩)
  · rintro v rest r s' ⟨hr, rfl, hall⟩
    obtain ⟨k', c, rfl, hc⟩ := hall v List.mem_cons_self
    have tl := fun u hu' => hall u (List.mem_cons_of_mem _ hu')
    dsimp only
    by_cases hv : (b == c || (carriedByValue (.ref b) && carriedByValue (.ref c))) = true
    · exact wp_if_pos hv (wpAny_pure ⟨rfl, rfl, tl⟩)
    · refine wp_if_neg hv (wpAny_bind (κ.quiet hk ?_))
      simp only [Bool.not_true, Bool.false_eq_true, if_false]
      refine wpAny_bind (κ.quiet hc ?_)
      simp only [Bool.not_true, Bool.false_eq_true, if_false]
      refine wpAny_bind (κ.noStmt hk ?_)
      simp only [Bool.false_eq_true, if_false]
      refine wpAny_bind (κ.noStmt hc ?_)
      simp only [Bool.false_eq_true, if_false]
      exact wpAny_pure ⟨rfl, rfl, tl⟩
  · rintro ⟨r1, r2⟩ s' ⟨hr, rfl, _⟩
    simp only at hr
    subst hr
    exact wpAny_pure h

def krows (κ : SKind P w K) (L : List (Addr × K)) : List (Int × Value) := L.map fun p => (κ.hash p.2, Value.ref p.1)
/-- the set at a holds the keys of L -/
structure KSetAt (κ : SKind P w K) (h : Heap) (a : Addr) (L : List (Addr × K)) (es : Array (Int × Value)) (ep : Nat) (t : SetTable) : Prop where
  obj : ∃ o, h.get? a = some o ∧ o.ExactSet ∧ o.data = .set es ep t
  rows : es.toList = krows κ L
  tab : TabOk t (L.map fun p => κ.hash p.2)
  nd : (L.map (·.2)).Nodup
  mem : ∀ p ∈ L, κ.is h p.2 p.1
  led : w.params.followText "set-order" = true ∨ t.led = true
  room : L.length * 5 < t.mask * 3
  few : L.length ≤ 76
variable {a : Addr} {L : List (Addr × K)} {es : Array (Int × Value)} {ep : Nat} {t : SetTable}
theorem rows_size (hr : es.toList = krows κ L) : es.size = L.length := by
  have h := congrArg List.length hr
  unfold krows at h
  simpa using h
theorem rows_get (hr : es.toList = krows κ L) {i : Nat} {p : Addr × K} (h : L[i]? = some p) : es[i]? = some (κ.hash p.2, Value.ref p.1) := by
  rw [← Array.getElem?_toList, hr]
  unfold krows
  rw [List.getElem?_map, h]
  rfl
theorem KSetAt.size (R : KSetAt κ s.heap a L es ep t) : es.size = L.length := rows_size R.rows
theorem KSetAt.fits (R : KSetAt κ s.heap a L es ep t) : t.fits es.size = true := by
  have h1 := R.tab.sz
  rw [List.length_map] at h1
  have h2 := R.size
  have h3 := R.room
  unfold SetTable.fits SetTable.fill
  rw [R.tab.dm, Bool.and_eq_true, beq_iff_eq, decide_eq_true_eq]
  show t.place.size = es.size ∧ t.place.size + 0 ≤ t.mask
  omega
theorem KSetAt.noGap (R : KSetAt κ s.heap a L es ep t) : ¬ t.gaveWay = true := by
  unfold SetTable.gaveWay
  rw [mask_odd R.tab.mok]
  decide

/-- where the search for the key of hash h stands after c steps -/
abbrev at_ (t : SetTable) (h : Int) (c : Nat) : SetTable.Probe := nth t.mask (runAt t.mask (SetTable.bits h % (t.mask + 1)) (SetTable.bits h)) c
theorem at_add (t : SetTable) (h : Int) (c q : Nat) : nth t.mask (at_ t h c) q = at_ t h (c + q) := (nth_add t.mask c _ q).symm
theorem at_j (t : SetTable) (h : Int) (c q : Nat) : (nth t.mask (at_ t h c) q).j = way t.mask h (c + q) := congrArg SetTable.Probe.j (at_add t h c q)
theorem at_dummy (t : SetTable) (h : Int) (c : Nat) : (at_ t h c).dummy = none := by
  have key : ∀ (n : Nat) (p : SetTable.Probe), p.dummy = none → (nth t.mask p n).dummy = none := by
    intro n
    induction n with
    | zero => exact fun _ h => h
    | succ n ih =>
      intro p h
      refine ih (adv t.mask p) ?_
      unfold adv
      split <;> exact h
  exact key c _ rfl

/-- THE SEARCH, from its c-th step on -/
theorem seek (R : KSetAt κ s.heap a L es ep t) {x : Addr} {k : K} (hx : κ.is s.heap k x) (hu : A.units < cLine) {N : Nat} (hN : N < 10 * SetTable.turns t.mask)
    (hgap : way t.mask (κ.hash k) N ∉ t.place.toList) (hbef : ∀ c, c < N → way t.mask (κ.hash k) c ∈ t.place.toList) {Q : SetFound → Shared → Prop}
    (hin : k ∈ L.map (·.2) → Q (.there none) s) (hout : k ∉ L.map (·.2) → Q (.free (way t.mask (κ.hash k) N) false) s) :
    ∀ (f c : Nat) (stand : Option SetTable.Probe), stand.getD (t.probeStart (κ.hash k)) = at_ t (κ.hash k) c → c ≤ N → N - c < f →
      (∀ (i : Nat) p, L[i]? = some p → p.2 = k → ∃ c', c ≤ c' ∧ c' < N ∧ t.place.toList[i]? = some (way t.mask (κ.hash k) c')) →
      wpAny (model P w) A (setSearchFrom a (.ref x) (κ.hash k) true f stand) Q E s
  | 0, _, _, _, _, hf, _ => absurd hf (Nat.not_lt_zero _)
  | f + 1, c, stand, hst, hc, hf, hre => by
    obtain ⟨o, ho, hex, hd⟩ := R.obj
    rw [setSearchFrom_succ]
    refine wpAny_bind (wpAny_setState_of ho hd R.fits ?_)
    dsimp only
    refine wp_if_neg R.noGap ?_
    try refine wpAny_bind (wpAny_pure ?_)
    have spec := go_spec t R.tab.ris R.tab.dm (fun i => (es[i]?.map (·.1)).getD 0) (κ.hash k) (10 * SetTable.turns t.mask) (N - c) _ (at_dummy t (κ.hash k) c) (by omega)
      (fun q hq => by rw [at_j]; exact hbef (c + q) (by omega)) (by rw [at_j, show c + (N - c) = N by omega]; exact hgap)
    have hashAt : ∀ (i : Nat) p, L[i]? = some p → (es[i]?.map (·.1)).getD 0 = κ.hash p.2 := fun i p hp => by
      rw [rows_get R.rows hp]
      rfl
    rcases spec with ⟨q, i, hq, hi, hh, hno, hpr⟩ | ⟨hno, hpr⟩
    · rw [show t.probe (fun i => (es[i]?.map (·.1)).getD 0) (κ.hash k) (stand.getD (t.probeStart (κ.hash k))) = some (.candidate (way t.mask (κ.hash k) (c + q)) i (at_ t (κ.hash k) (c + (q + 1)))) by
        rw [hst, ← at_j, ← at_add]
        exact hpr]
      dsimp only
      rw [at_j] at hi
      have hil : i < L.length := by
        have h1 : i < t.place.toList.length := (List.getElem?_eq_some_iff.mp hi).1
        have h2 := R.tab.sz
        rw [List.length_map] at h2
        rw [Array.length_toList] at h1
        omega
      obtain ⟨p, hp⟩ : ∃ p, L[i]? = some p := ⟨L[i], List.getElem?_eq_getElem hil⟩
      have hmem : p ∈ L := List.mem_of_getElem? hp
      have more : wpAny (model P w) A (searchRest a (.ref x) (κ.hash k) true f es t (way t.mask (κ.hash k) (c + q)) i (at_ t (κ.hash k) (c + (q + 1)))) Q E s := by
        unfold searchRest
        rw [rows_get R.rows hp]
        dsimp only
        refine wpAny_bind (wpAny_holding (κ.eqs hu (R.mem p hmem) hx ?_))
        refine wpAny_bind (wpAny_setState_of ho hd R.fits ?_)
        dsimp only
        by_cases hkk : p.2 = k
        · refine wp_if_pos (by simp [hkk]) (wpAny_pure (hin ?_))
          exact List.mem_map.mpr ⟨p, hmem, hkk⟩
        · refine wp_if_neg (by simp [hkk]) ?_
          try refine wpAny_bind (wpAny_pure ?_)
          rw [sameMem]
          dsimp only
          have hsl : t.slot (way t.mask (κ.hash k) (c + q)) = .live i := slot_live R.tab.ris hi
          simp only [if_true, hsl, rows_get R.rows hp]
          refine wpAny_bind (wpAny_isSame_ref_self (wpAny_bind (wpAny_pure ?_)))
          simp only [if_true]
          refine wp_if_neg (by simp [hkk]) ?_
          refine seek R hx hu hN hgap hbef hin hout f (c + (q + 1)) _ rfl (by omega) (by omega) fun j p' hj hk' => ?_
          obtain ⟨c', a1, a2, a3⟩ := hre j p' hj hk'
          refine ⟨c', ?_, a2, a3⟩
          rcases Nat.lt_trichotomy c' (c + q) with z | z | z
          · refine absurd ((hashAt j p' hj).trans (congrArg κ.hash hk')) (hno (c' - c) j (by omega) ?_)
            rw [at_j, show c + (c' - c) = c' by omega]
            exact a3
          · rw [z] at a3
            have s0 := slot_live R.tab.ris a3
            rw [hsl] at s0
            injection s0 with s0
            rw [← s0, hp] at hj
            exact absurd ((congrArg Prod.snd (Option.some.inj hj)).trans hk') hkk
          · omega
      by_cases hl : t.led = true
      · refine wp_if_neg (by simp [hl]) ?_
        try refine wpAny_bind (wpAny_pure ?_)
        exact more
      · refine wp_if_pos (by simp [hl]) (wpAny_bind (unseen (κ := κ) hx (fun y hy => ?_) ?_))
        · obtain ⟨e, he, rfl⟩ := List.mem_map.mp hy
          have he1 : e ∈ es ∧ e.1 = κ.hash k := by simpa using he
          have he2 : e ∈ es.toList := by simpa using he1.1
          rw [R.rows] at he2
          obtain ⟨p2, hp2, rfl⟩ := List.mem_map.mp he2
          exact ⟨p2.2, p2.1, rfl, R.mem p2 hp2⟩
        · refine wp_if_neg (by decide) ?_
          try refine wpAny_bind (wpAny_pure ?_)
          exact more
    · rw [show t.probe (fun i => (es[i]?.map (·.1)).getD 0) (κ.hash k) (stand.getD (t.probeStart (κ.hash k))) = some (.empty (way t.mask (κ.hash k) N) none) by
        have e2 : way t.mask (κ.hash k) N = (nth t.mask (at_ t (κ.hash k) c) (N - c)).j := by
          rw [at_j, show c + (N - c) = N by omega]
        rw [hst, e2]
        exact hpr]
      dsimp only
      refine wpAny_pure (hout fun hm => ?_)
      obtain ⟨p, hp, hk⟩ := List.mem_map.mp hm
      obtain ⟨i, hi, e0⟩ := List.getElem_of_mem hp
      have hi' : L[i]? = some p := by rw [List.getElem?_eq_getElem hi, e0]
      obtain ⟨c', a1, a2, a3⟩ := hre i p hi' hk
      refine hno (c' - c) i (by omega) (by rw [at_j, show c + (c' - c) = c' by omega]; exact a3) ?_
      exact (hashAt i p hi').trans (congrArg κ.hash hk)

/-- the search as adding asks for it -/
theorem sought (R : KSetAt κ s.heap a L es ep t) {x : Addr} {k : K} (hx : κ.is s.heap k x) (hu : A.units < cLine) {Q : SetFound → Shared → Prop}
    (hin : k ∈ L.map (·.2) → Q (.there none) s)
    (hout : ∀ N, k ∉ L.map (·.2) → way t.mask (κ.hash k) N ∉ t.place.toList → (∀ c, c < N → way t.mask (κ.hash k) c ∈ t.place.toList) → Q (.free (way t.mask (κ.hash k) N) false) s) :
    wpAny (model P w) A (setSearch a (.ref x) (κ.hash k) true) Q E s := by
  have hroom := R.room
  obtain ⟨N, hNf, hN, hNb⟩ := R.tab.first (by rw [List.length_map]; omega) (κ.hash k)
  have hbig : N < 100000 := by
    have : 10 * SetTable.turns t.mask ≤ 1420 := by
      unfold SetTable.turns
      rcases R.tab.mok with e | e | e <;> omega
    omega
  unfold setSearch
  refine seek R hx hu hNf hN hNb hin (fun hn => hout N hn hN hNb) 100000 0 none rfl (Nat.zero_le _) (by omega) fun i p hp hk => ?_
  have hi : (L.map fun p => κ.hash p.2)[i]? = some (κ.hash k) := by
    rw [List.getElem?_map, hp, ← hk]
    rfl
  have hil : i < t.place.toList.length := by
    have h1 : i < L.length := (List.getElem?_eq_some_iff.mp hp).1
    have h2 := R.tab.sz
    rw [List.length_map] at h2
    rw [Array.length_toList]
    omega
  have hj := List.getElem?_eq_getElem hil
  obtain ⟨c, hc, e⟩ := R.tab.before hN hi hj
  exact ⟨c, Nat.zero_le _, hc, by rw [hj, e]⟩
end
end KS

namespace KS
open PySem PySem.Spec PyProof.Rows L2
section
variable {P : Program} {w : World} {A : Around} {E : Value → Shared → Prop} {s : Shared} {K : Type} [DecidableEq K] {κ : SKind P w K}

/-- a member is not the set itself -/
theorem is_same {h h' : Heap} {k : K} {a b : Addr} {o : Obj} {es : Array (Int × Value)} {ep : Nat} {t : SetTable} (hb : κ.is h k b) (ho : h.get? a = some o) (hd : o.data = .set es ep t) (hs : Heap.SameBut a h h') : κ.is h' k b :=
  κ.keep hb fun c u its n hu hc => by
    refine (hs.2 c fun e => ?_).trans hu
    subst e
    rw [ho] at hu
    cases hu
    rw [hd] at hc
    cases hc
theorem is_mono {h h' : Heap} {k : K} {b : Addr} (x : κ.is h k b) (hk : ∀ c o, h.get? c = some o → h'.get? c = some o) : κ.is h' k b := κ.keep x fun c u _ _ hu _ => hk c u hu
theorem krows_put (L : List (Addr × K)) (p : Nat) (x : Addr) (k : K) : krows κ (L.take p ++ (x, k) :: L.drop p) = (krows κ L).take p ++ (κ.hash k, Value.ref x) :: (krows κ L).drop p := by
  unfold krows
  rw [List.map_append, List.map_cons, List.map_take, List.map_drop]
theorem picks_all {α : Type} (L : List α) : (List.range L.length).filterMap (fun i => L[i]?) = L := by
  have key : ∀ n, n ≤ L.length → (List.range n).filterMap (fun i => L[i]?) = L.take n := by
    intro n
    induction n with
    | zero => intro _; rfl
    | succ n ih =>
      intro hn
      rw [List.range_succ, List.filterMap_append, ih (Nat.le_of_lt hn), List.take_succ, List.getElem?_eq_getElem hn, List.filterMap_cons_some (List.getElem?_eq_getElem hn)]
      rfl
  rw [key L.length (Nat.le_refl _), List.take_length]
theorem reorder (L : List (Addr × K)) (es : Array (Int × Value)) (order : Array Nat) (hr : es.toList = krows κ L) (hp : order.toList.Perm (List.range L.length)) :
    ∃ L2, (order.filterMap (es[·]?)).toList = krows κ L2 ∧ L2.Perm L ∧ (L2.map fun p => κ.hash p.2) = order.toList.map fun i => (es.map (·.1)).getD i 0 := by
  have hsz := rows_size hr
  have ent : ∀ i (h : i < L.length), es[i]? = some (κ.hash (L[i]).2, Value.ref (L[i]).1) := fun i h => rows_get hr (List.getElem?_eq_getElem h)
  have key : ∀ l : List Nat, (∀ i ∈ l, i < L.length) → ∃ L2 : List (Addr × K), l.filterMap (fun i => es[i]?) = krows κ L2 ∧ L2 = l.filterMap (fun i => L[i]?) ∧ (L2.map fun p => κ.hash p.2) = l.map fun i => (es.map (·.1)).getD i 0 := by
    intro l
    induction l with
    | nil => exact fun _ => ⟨[], rfl, rfl, rfl⟩
    | cons i l ih =>
      intro hl
      have hi := hl i List.mem_cons_self
      obtain ⟨L2, e1, e2, e3⟩ := ih fun j hj => hl j (List.mem_cons_of_mem _ hj)
      refine ⟨L[i] :: L2, ?_, ?_, ?_⟩
      · rw [List.filterMap_cons_some (ent i hi), e1]
        rfl
      · rw [List.filterMap_cons_some (List.getElem?_eq_getElem hi), e2]
      · have e5 : (es.map (·.1))[i]? = some (κ.hash (L[i]).2) := by
          rw [Array.getElem?_map, ent i hi]
          rfl
        rw [List.map_cons, List.map_cons, e3, show (es.map (·.1)).getD i 0 = κ.hash (L[i]).2 by simp [Array.getD_eq_getD_getElem?, e5]]
  obtain ⟨L2, e1, e2, e3⟩ := key order.toList fun i hi => List.mem_range.mp (hp.mem_iff.mp hi)
  refine ⟨L2, by first | (rw [Array.toList_filterMap]; exact e1) | simpa using e1, ?_, e3⟩
  have h1 : L2.Perm ((List.range L.length).filterMap fun i => L[i]?) := by
    rw [e2]
    exact hp.filterMap _
  rwa [picks_all] at h1

/-- only the mark of plainness apart -/
theorem TabOk_plain {t : SetTable} {hs : List Int} (T : TabOk t hs) (b : Bool) : TabOk { t with plain := b } hs := ⟨T.ris, T.dm, T.sz, T.mok, T.bd, T.reach⟩

variable {a : Addr} {L : List (Addr × K)} {es : Array (Int × Value)} {ep : Nat} {t : SetTable}
/-- the table laid anew, larger -/
theorem relaid_at {o : Obj} (ho : s.heap.get? a = some o) (hex : o.ExactSet) (hd : o.data = .set es ep t) (hrows : es.toList = krows κ L) (hsz : t.place.size = es.size) (hdm : t.dummies = #[]) (hfl : es.size ≤ t.mask)
    (nd : (L.map (·.2)).Nodup) (mem : ∀ p ∈ L, κ.is s.heap p.2 p.1) (ld : w.params.followText "set-order" = true ∨ t.led = true) (few : L.length ≤ 76) {wanted M : Nat}
    (hw : SetTable.sizeAbove wanted - 1 = M) (hM : MaskOk M) (hw2 : SetTable.sizeAbove wanted ≤ 128) (hn : L.length * 5 < M * 3) {Q : Unit → Shared → Prop}
    (hQ : ∀ h' L' es' ep' t', Heap.SameBut a s.heap h' → KSetAt κ h' a L' es' ep' t' → L'.Perm L → Q () { s with heap := h' }) : wpAny (model P w) A (setRelay a wanted) Q E s := by
  have hsl := rows_size hrows
  have hfits : t.fits es.size = true := by
    unfold SetTable.fits SetTable.fill
    rw [hdm, Bool.and_eq_true, beq_iff_eq, decide_eq_true_eq]
    show t.place.size = es.size ∧ t.place.size + 0 ≤ t.mask
    omega
  obtain ⟨t', order, e, hp, T, em, el, _, _⟩ := relaid_ok t (hs := es.map (·.1)) (wanted := wanted) hw hM (by rw [Array.size_map, hsl]; omega)
  rw [Array.size_map, hsl] at hp
  obtain ⟨L2, r1, r2, r3⟩ := reorder (κ := κ) L es order hrows hp
  rw [← r3] at T
  have hs2 : (order.filterMap (es[·]?)).size = es.size := by
    rw [rows_size r1, r2.length_eq, hsl]
  rw [setRelay_eq]
  refine wpAny_bind (wpAny_setState_of ho hd hfits ?_)
  dsimp only
  refine wp_if_neg (by rw [sizeLine_eq]; omega) ?_
  try refine wpAny_bind (wpAny_pure ?_)
  rw [e]
  dsimp only
  refine wpAny_bind (wp_if_neg (by rw [hs2]; simp) ?_)
  try refine wpAny_bind (wpAny_pure ?_)
  refine wpAny_pure ?_
  dsimp only
  refine wpAny_storeSet_of ho hd ?_ (by rw [hs2, hsl, sizeLine_eq]; omega)
  have sb : Heap.SameBut a s.heap (s.heap.update a (Obj.putSet (order.filterMap (es[·]?)) t')) := Heap.SameBut.update ..
  refine hQ _ L2 (order.filterMap (es[·]?)) (ep + 1) t' sb ?_ r2
  refine ⟨⟨_, store_at ho hd, ⟨hex.1, hex.2.1, hex.2.2⟩, rfl⟩, r1, T, (r2.map (·.2)).nodup_iff.mpr nd, fun p hpm => is_same (mem p (r2.mem_iff.mp hpm)) ho hd sb, by rw [el]; exact ld, ?_, by rw [r2.length_eq]; exact few⟩
  rw [r2.length_eq, em]
  exact hn

/-- ADDING -/
theorem added (R : KSetAt κ s.heap a L es ep t) {x : Addr} {k : K} (hx : κ.is s.heap k x) (hu : A.units < cLine) (hfew : L.length + 1 ≤ 76) {Q : Bool → Shared → Prop}
    (hQ : ∀ b h' L' es' ep' t', Heap.SameBut a s.heap h' → KSetAt κ h' a L' es' ep' t' → (k ∈ L.map (·.2) → L' = L) → (k ∉ L.map (·.2) → L'.Perm ((x, k) :: L)) → Q b { s with heap := h' }) :
    wpAny (model P w) A (setAddHashed a (.ref x) (κ.hash k)) Q E s := by
  obtain ⟨o, ho, hex, hd⟩ := R.obj
  have hsl := R.size
  have hroom := R.room
  unfold setAddHashed
  refine wpAny_holding ?_
  rw [show (100000 : Nat) = 99999 + 1 from rfl, setAddHashedIn_succ]
  refine wpAny_bind (wpAny_setState_of ho hd R.fits ?_)
  dsimp only
  refine wp_if_neg (by simp [byScan, Value.scannable]) ?_
  try refine wpAny_bind (wpAny_pure ?_)
  refine wpAny_bind (sought R hx hu (fun hm => ?_) fun N hm hN hb => ?_)
  · dsimp only
    exact wpAny_pure (hQ false s.heap L es ep t (Heap.SameBut.refl a s.heap) R (fun _ => rfl) fun z => absurd hm z)
  · dsimp only
    refine wpAny_bind (wpAny_setState_of ho hd R.fits ?_)
    dsimp only
    obtain ⟨q1, q2, q3, q4, q5, q6, q7, q8, q9⟩ := R.tab.put hN hb
    generalize hpt : t.put (way t.mask (κ.hash k) N) = pt at q1 q3 q4 q5 q6 q7 q8 q9 ⊢
    obtain ⟨t1, p⟩ := pt
    dsimp only at q1 q3 q4 q5 q6 q7 q8 q9 ⊢
    subst q1
    have hin : (SetTable.insertAt es (SetTable.below t.place (way t.mask (κ.hash k) N)) (κ.hash k, Value.ref x)).toList = krows κ (L.take (SetTable.below t.place (way t.mask (κ.hash k) N)) ++ (x, k) :: L.drop (SetTable.below t.place (way t.mask (κ.hash k) N))) := by
      rw [SetTable.toList_insertAt, krows_put, R.rows]
    generalize hpp : SetTable.below t.place (way t.mask (κ.hash k) N) = p at q2 q3 hin ⊢
    have pm := put_perm L p (x, k)
    have hlen : (L.take p ++ (x, k) :: L.drop p).length = L.length + 1 := pm.length_eq
    have hhs : (L.take p ++ (x, k) :: L.drop p).map (fun p => κ.hash p.2) = (L.map fun p => κ.hash p.2).take p ++ κ.hash k :: (L.map fun p => κ.hash p.2).drop p := by
      rw [List.map_append, List.map_cons, List.map_take, List.map_drop]
    rw [← hhs] at q3
    have nd1 : ((L.take p ++ (x, k) :: L.drop p).map (·.2)).Nodup := by
      refine (pm.map (·.2)).nodup_iff.mpr ?_
      rw [List.map_cons]
      exact List.nodup_cons.mpr ⟨hm, R.nd⟩
    have hes : (SetTable.insertAt es p (κ.hash k, Value.ref x)).size = L.length + 1 := by rw [rows_size hin, hlen]
    generalize SetTable.insertAt es p (κ.hash k, Value.ref x) = es1 at hin hes ⊢
    generalize L.take p ++ (x, k) :: L.drop p = L1 at pm hlen q3 nd1 hin
    -- whatever the mark of plainness is then
    have all : ∀ t2 : SetTable, t2.mask = t1.mask → t2.led = t1.led → t2.fill = t1.fill → t2.place = t1.place → TabOk t2 (L1.map fun p => κ.hash p.2) →
        wpAny (model P w) A (do
          storeSet a es1 t2
          if !false && t2.tooFull then setRelay a (SetTable.grown (es.size + 1))
          return true) Q E s := fun t2 m2 l2 f2 pl2 T2 => by
      refine wpAny_bind (wpAny_storeSet_of ho hd ?_ (by rw [hes, sizeLine_eq]; omega))
      have sb : Heap.SameBut a s.heap (s.heap.update a (Obj.putSet es1 t2)) := Heap.SameBut.update ..
      have ho1 := store_at (es' := es1) (t' := t2) ho hd
      generalize s.heap.update a (Obj.putSet es1 t2) = h1 at sb ho1 ⊢
      have mem1 : ∀ p ∈ L1, κ.is h1 p.2 p.1 := fun p hp => by
        rcases List.mem_cons.mp (pm.mem_iff.mp hp) with e | hp
        · rw [e]; exact is_same hx ho hd sb
        · exact is_same (R.mem p hp) ho hd sb
      have ld1 : w.params.followText "set-order" = true ∨ t2.led = true := by rw [l2, q5]; exact R.led
      by_cases hf : t2.tooFull = true
      · first
          | (refine wpAny_bind ?_; refine wp_if_pos (by simp [hf]) ?_)
          | (refine wp_if_pos (by simp [hf]) ?_; refine wpAny_bind ?_)
        have hfull : (L.length + 1) * 5 ≥ t1.mask * 3 := by
          have h := hf
          unfold SetTable.tooFull at h
          rw [decide_eq_true_eq, f2, q9, List.length_map, m2] at h
          exact h
        rw [hsl]
        have cases2 : (t.mask = 7 ∧ L.length = 4) ∨ (t.mask = 31 ∧ L.length = 18) := by
          rcases R.tab.mok with e | e | e
          · left; rw [q4, e] at hfull; rw [e] at hroom; exact ⟨e, by omega⟩
          · right; rw [q4, e] at hfull; rw [e] at hroom; exact ⟨e, by omega⟩
          · exfalso; rw [q4, e] at hfull; omega
        have hsz1 : t2.place.size = es1.size := by
          have h := T2.sz
          rw [List.length_map, hlen] at h
          rw [h, hes]
        have go : ∀ M, SetTable.sizeAbove (SetTable.grown (L.length + 1)) - 1 = M → MaskOk M → SetTable.sizeAbove (SetTable.grown (L.length + 1)) ≤ 128 → (L.length + 1) * 5 < M * 3 →
            wpAny (model P w) A (setRelay a (SetTable.grown (L.length + 1))) (fun _ s' => wpAny (model P w) A (pure true) Q E s') E { s with heap := h1 } := fun M g1 g2 g3 g4 => by
          refine relaid_at (κ := κ) (s := { s with heap := h1 }) ho1 ⟨hex.1, hex.2.1, hex.2.2⟩ rfl hin hsz1 T2.dm (by rw [hes, m2, q4]; rcases cases2 with ⟨e, e2⟩ | ⟨e, e2⟩ <;> omega) nd1 mem1 ld1 (by rw [hlen]; exact hfew) g1 g2 g3 (by rw [hlen]; exact g4) ?_
          intro h2 L2 es2 ep2 t2 sb2 R2 pm2
          exact wpAny_pure (hQ true h2 L2 es2 ep2 t2 (sb.trans sb2) R2 (fun z => absurd z hm) fun _ => pm2.trans pm)
        rcases cases2 with ⟨_, e2⟩ | ⟨_, e2⟩
        · exact go 31 (by rw [e2, size_20]) (.inr (.inl rfl)) (by rw [e2, size_20]; decide) (by omega)
        · exact go 127 (by rw [e2, size_76]) (.inr (.inr rfl)) (by rw [e2, size_76]; decide) (by omega)
      · first
          | refine wp_if_neg (by simp [hf]) ?_
          | (refine wpAny_bind ?_; refine wp_if_neg (by simp [hf]) ?_; refine wpAny_pure ?_)
        refine wpAny_pure (hQ true h1 L1 es1 (ep + 1) t2 sb ⟨⟨_, ho1, ⟨hex.1, hex.2.1, hex.2.2⟩, rfl⟩, hin, T2, nd1, mem1, ld1, ?_, by rw [hlen]; exact hfew⟩ (fun z => absurd z hm) fun _ => pm)
        have h := hf
        unfold SetTable.tooFull at h
        rw [decide_eq_true_eq, f2, q9, List.length_map] at h
        rw [hlen]
        omega
    by_cases hp1 : t1.plain = true
    · first
        | (refine wpAny_bind ?_; refine wp_if_pos hp1 ?_; refine κ.byVal hx fun b => ?_)
        | refine wp_if_pos hp1 (wpAny_bind (κ.byVal hx fun b => ?_))
      cases b
      · simp only [Bool.false_eq_true, if_false]
        exact all { t1 with plain := false } rfl rfl rfl rfl (TabOk_plain q3 false)
      · simp only [if_true]
        exact all t1 rfl rfl rfl rfl q3
    · first
        | (refine wpAny_bind ?_; refine wp_if_neg hp1 ?_; refine wpAny_pure ?_)
        | refine wp_if_neg hp1 (wpAny_bind (wpAny_pure ?_))
      simp only [if_true]
      exact all t1 rfl rfl rfl rfl q3
end
end KS

namespace KS
open PySem PySem.Spec PyProof.Rows L2
/-- what the set has got from the first i items -/
structure Taken {K : Type} (ks : List (Addr × K)) (i : Nat) (L : List (Addr × K)) : Prop where
  sub : ∀ p ∈ L, p ∈ ks.take i
  all : ∀ p ∈ ks.take i, p.2 ∈ L.map (·.2)
  len : L.length ≤ i
theorem take_one {α : Type} {l : List α} {i : Nat} {x : α} (h : l[i]? = some x) : l.take (i + 1) = l.take i ++ [x] := by
  rw [List.take_succ, h]
  rfl
theorem Taken.zero {K : Type} (ks : List (Addr × K)) : Taken ks 0 [] := ⟨(fun p h => nomatch h), (fun p h => by simp at h), Nat.le_refl _⟩
theorem Taken.same {K : Type} {ks L : List (Addr × K)} {i : Nat} {x : Addr × K} (g : Taken ks i L) (h : ks[i]? = some x) (hm : x.2 ∈ L.map (·.2)) : Taken ks (i + 1) L := by
  refine ⟨fun p hp => ?_, fun p hp => ?_, Nat.le_succ_of_le g.len⟩
  · rw [take_one h]; exact List.mem_append_left _ (g.sub p hp)
  · rw [take_one h] at hp
    rcases List.mem_append.mp hp with z | z
    · exact g.all p z
    · rw [List.mem_singleton.mp z]; exact hm
theorem Taken.more {K : Type} {ks L L' : List (Addr × K)} {i : Nat} {x : Addr × K} (g : Taken ks i L) (h : ks[i]? = some x) (pm : L'.Perm (x :: L)) : Taken ks (i + 1) L' := by
  refine ⟨fun p hp => ?_, fun p hp => ?_, ?_⟩
  · rw [take_one h]
    rcases List.mem_cons.mp (pm.mem_iff.mp hp) with e | z
    · rw [e]; exact List.mem_append_right _ (List.mem_singleton.mpr rfl)
    · exact List.mem_append_left _ (g.sub p z)
  · rw [(pm.map (·.2)).mem_iff, List.map_cons]
    rw [take_one h] at hp
    rcases List.mem_append.mp hp with z | z
    · exact List.mem_cons_of_mem _ (g.all p z)
    · rw [List.mem_singleton.mp z]; exact List.mem_cons_self
  · rw [pm.length_eq, List.length_cons]; exact Nat.succ_le_succ g.len

section
variable {P : Program} {w : World} {A : Around} {E : Value → Shared → Prop} {s : Shared} {K : Type} [DecidableEq K] {κ : SKind P w K}
theorem KSetAt.keep {h h' : Heap} {a : Addr} {L : List (Addr × K)} {es : Array (Int × Value)} {ep : Nat} {t : SetTable} (R : KSetAt κ h a L es ep t) (ha : ∀ o, h.get? a = some o → h'.get? a = some o) (ht : ∀ p ∈ L, κ.is h' p.2 p.1) : KSetAt κ h' a L es ep t := by
  obtain ⟨o, ho, r⟩ := R.obj
  exact ⟨⟨o, ha o ho, r⟩, R.rows, R.tab, R.nd, ht, R.led, R.room, R.few⟩
/-- the empty set's object -/
abbrev newSetO (w : World) : Obj := { cls := .type "set", dict := none, data := .set #[] 0 (.fresh 0 0 (!w.params.followText "set-order")) }
theorem kset_new {h : Heap} {a : Addr} (ho : h.get? a = some (newSetO w)) : KSetAt κ h a [] #[] 0 (.fresh 0 0 (!w.params.followText "set-order")) where
  obj := ⟨_, ho, ⟨rfl, rfl, rfl⟩, rfl⟩
  rows := rfl
  tab := ⟨List.Pairwise.nil, rfl, rfl, .inl rfl, (fun x hx => nomatch hx), (fun i h j hi => by simp at hi)⟩
  nd := List.nodup_nil
  mem := fun p hp => nomatch hp
  led := by
    show _ ∨ (!w.params.followText "set-order") = true
    cases w.params.followText "set-order"
    · exact .inr rfl
    · exact .inl rfl
  room := by show 0 * 5 < 7 * 3; decide
  few := Nat.zero_le _

/-- set.update's loop -/
theorem fill_loop {I : Addr} {fp wr : List Addr} {G : Array GenState → Array GenState → Prop} {n : Nat} {Pv : Nat → Value → Prop} {St : Nat → Shared → Prop} {R : Result → Shared → Prop}
    (W : WalksS P w A.in1 I fp wr G n Pv St) (S : Addr) (hSf : S ∉ fp) (ks : List (Addr × K)) (hn : n = ks.length) (hfew : ks.length ≤ 76) (hval : ∀ i v, Pv i v → ∃ p, ks[i]? = some p ∧ v = .ref p.1)
    (h0 : Heap) (hk : ∀ p ∈ ks, κ.is h0 p.2 p.1) (hS0 : h0.get? S = none) (hw0 : ∀ b ∈ wr, h0.get? b = none) (hu : A.in1.units < cLine) :
    ∀ (k i : Nat) (s : Shared), n - i = k → i ≤ n → St i s → (∀ b o, h0.get? b = some o → s.heap.get? b = some o) → (∃ L es ep t, KSetAt κ s.heap S L es ep t ∧ Taken ks i L) →
      (∀ s' L es ep t, Moved (S :: wr) G s s' → KSetAt κ s'.heap S L es ep t → Taken ks n L → (∀ b o, h0.get? b = some o → s'.heap.get? b = some o) → R (.ok (.ret .none)) s') →
      codeAny (model P w) A (.builtin "set.update.loop" ⟨[.ref S, .ref I], []⟩) R s := by
  have hSw : S ∉ wr := fun h => hSf (W.sub _ h)
  have up : ∀ b ∈ wr, b ∈ S :: wr := fun b hb => List.mem_cons_of_mem _ hb
  have kept : ∀ {s s' : Shared}, Moved wr G s s' → (∀ b o, h0.get? b = some o → s.heap.get? b = some o) → ∀ b o, h0.get? b = some o → s'.heap.get? b = some o := fun hm hkp b o e =>
    hm.heap b o (fun hb => by rw [hw0 b hb] at e; cases e) (hkp b o e)
  intro k
  induction k with
  | zero =>
    intro i s hk' hi hst hkp ⟨L, es, ep, t, hS, g⟩ hR
    obtain rfl : i = n := by omega
    refine codeAny_builtin F.entry_set_update_loop ?_
    rw [Around.under_plainId F.plain_set_update_loop _]
    show wpAny _ A.in1 (pyNext (.ref I) >>= _) _ _ s
    refine wpAny_bind (W.done s _ _ hst fun s' hm => ?_)
    show wpAny _ A.in1 (ret Value.none) _ _ s'
    have hkp' := kept hm hkp
    exact wpAny_pure (hR s' L es ep t (hm.mono up) (hS.keep (fun o e => hm.heap S o hSw e) fun p hp => is_mono (hk p (List.mem_of_mem_take (g.sub p hp))) hkp') g hkp')
  | succ k ih =>
    intro i s hk' hi hst hkp ⟨L, es, ep, t, hS, g⟩ hR
    have hlt : i < n := by omega
    refine codeAny_builtin F.entry_set_update_loop ?_
    rw [Around.under_plainId F.plain_set_update_loop _]
    show wpAny _ A.in1 (pyNext (.ref I) >>= _) _ _ s
    refine wpAny_bind (W.item i s _ _ hlt hst fun v s' hP hst' hm => ?_)
    obtain ⟨p, hp, rfl⟩ := hval i v hP
    have hkp' := kept hm hkp
    have hS' : KSetAt κ s'.heap S L es ep t := hS.keep (fun o e => hm.heap S o hSw e) fun q hq => is_mono (hk q (List.mem_of_mem_take (g.sub q hq))) hkp'
    have hx : κ.is s'.heap p.2 p.1 := is_mono (hk p (List.mem_of_getElem? hp)) hkp'
    show wpAny _ A.in1 (holding [Value.ref p.1] (setAdd S (.ref p.1)) >>= _) _ _ s'
    refine wpAny_bind (wpAny_holding ?_)
    unfold setAdd
    refine wpAny_holding (wpAny_bind (κ.hashed hu hx ?_))
    refine added (s := { s' with toks := s'.toks + κ.draws p.2 }) hS' hx hu (by have := g.len; omega) fun b h' L' es' ep' t' hsb hS2 c1 c2 => ?_
    have g' : Taken ks (i + 1) L' := by
      by_cases c : p.2 ∈ L.map (·.2)
      · rw [c1 c]; exact g.same hp c
      · exact g.more hp (c2 c)
    have hkp2 : ∀ b o, h0.get? b = some o → h'.get? b = some o := fun b o e => (hsb.2 b (fun z => by rw [z, hS0] at e; cases e)).trans (hkp' b o e)
    refine wpAny_pure ⟨plainId_quiet F.plain_set_update_loop _, ih (i + 1) _ (by omega) hlt (W.frame _ s' _ _ hst' (Nat.le_add_right _ _) fun b hb o e => ?_) hkp2 ⟨L', es', ep', t', hS2, g'⟩ fun s'' L2 es2 ep2 t2 hm'' hS'' g'' hkp'' => ?_⟩
    · rw [hsb.2 b (fun h : b = S => hSf (by rw [← h]; exact hb))]; exact e
    · refine hR s'' L2 es2 ep2 t2 (Moved.trans W.gtrans ((hm.mono up).then_heap (Nat.le_add_right _ _) fun b o hb e => ?_) hm'') hS'' g'' hkp''
      rw [hsb.2 b (fun h : b = S => hb (by rw [h]; exact List.mem_cons_self))]; exact e

/-- set(xs), xs a list: the loop that fills it is told -/
theorem set_call {l : Addr} {items : Array Value} {Res : Heap → Prop} {Q : Value → Shared → Prop} (hh : A.handled = none) (hl : s.heap.IsList l items)
    (loop : ∀ (A' : Around) (n' : Nat) (R : Result → Shared → Prop), A'.handled = none → A'.units = A.units + 2 → n' = (s.heap.push (newSetO w)).objs.size →
      (∀ h' tk, Res h' → (∀ b o, s.heap.get? b = some o → h'.get? b = some o) → R (.ok (.ret .none)) { s with heap := h', toks := tk }) →
      codeAny (model P w) A' (.builtin "set.update.loop" ⟨[.ref s.heap.objs.size, .ref n'], []⟩) R { s with heap := (s.heap.push (newSetO w)).push { cls := .type "list_iterator", data := .fields #[.ref l, .int 0 0] } })
    (h : ∀ (h' : Heap) (tk : Nat), Res h' → (∀ b o, s.heap.get? b = some o → h'.get? b = some o) → Q (.ref s.heap.objs.size) { s with heap := h', toks := tk }) :
    wpAny (model P w) A (call (.type "set") [.ref l]) Q E s := by
  obtain ⟨c, tl, hmro⟩ := F.called_set.mro
  have hmade := F.called_set.made
  have hsub := F.called_set.sub
  refine wpAny_call (codeAny_of_tree ?_)
  show wpAny _ _ (callAny (.type "set") _) _ _ _
  refine wpAny_pure ⟨Code.quiet_builtin _ (by decide +kernel), codeAny_builtin F.entry_type_call ?_⟩
  rw [Around.under_plain (weight_type_call_type "set" [.ref l] []) rfl]
  have h1 := F.called_set.notType
  have h2 := F.called_set.canCreate
  have hct := F.typeCall_set_1 (.ref l)
  repeat (any_goals (first | assumption | wp_step))
  refine codeAny_mono (code_set_led1 (.ref l) (E := E) (Q₁ := fun obj s₁ => obj = .ref s.heap.objs.size ∧ s₁ = { s with heap := s.heap.push (newSetO w) }) ⟨rfl, rfl⟩) fun r s₁ hr => ?_
  cases r with
  | error e => exact hr
  | ok fl =>
    cases fl with
    | ret obj =>
      obtain ⟨rfl, rfl⟩ := hr
      have hS : (s.heap.push (newSetO w)).get? s.heap.objs.size = some (newSetO w) := Heap.get?_push_size _ rfl
      have hT : Shared.TypeIs { s with heap := s.heap.push (newSetO w) } (.ref s.heap.objs.size) "set" := ⟨_, hS, rfl⟩
      have hli := F.called_set.init.lookup
      have hbi := F.called_set.init.bind (.ref s.heap.objs.size)
      repeat (any_goals (first | assumption | wp_step))
      refine codeAny_mono (codeAny_call_builtin (R := wants (fun r s₂ => r = .none ∧ ∃ h' tk, s₂ = { s with heap := h', toks := tk } ∧ Res h' ∧
          (∀ b o, s.heap.get? b = some o → h'.get? b = some o)) E) F.called_set.init.plain F.entry_set_init (check_set_init_1 hT ?_)) fun r₂ s₂ hr₂ => ?_
      · obtain ⟨ol, hol, hcl, nl, hdl⟩ := hl
        obtain ⟨ocls, odict, odata, oslots⟩ := ol
        simp only at hcl hdl
        subst hcl; subst hdl
        have hol' : (s.heap.push (newSetO w)).get? l = some { cls := .type "list", dict := odict, data := .seq items nl, slots := oslots } := Heap.get?_push_of_some _ hol
        have hsls := F.sub_list_set
        have hslf := F.sub_list_frozenset
        have hne : (Value.type "list" == Value.type "dict") = false := by decide
        have hl1 : (s.heap.push (newSetO w)).IsList l items := ⟨_, hol', rfl, nl, rfl⟩
        unfold Builtin.«set.__init__» noKeywords Builtin.Frozenset.updateFrom
        generalize hPI : pyIter = PI
        wp_walk
        subst hPI
        refine wpAny_pyIter_list hl1 ?_
        refine wpAny_bind (wpAny_runValue ?_)
        refine loop _ _ _ (by simp [hh]) rfl rfl fun h' tk hR hk => ?_
        show wpAny _ _ _ _ _ _
        refine wpAny_pure ?_
        show wpAny _ _ (ret Value.none) _ _ _
        exact wpAny_pure ⟨rfl, h', tk, rfl, hR, hk⟩
      · cases r₂ with
        | error e => exact hr₂
        | ok fl₂ =>
          cases fl₂ with
          | ret r =>
            obtain ⟨rfl, h', tk, rfl, hR, hk⟩ := hr₂
            repeat (any_goals (first | assumption | wp_step))
            exact h _ _ hR hk
          | _ => exact hr₂.elim
    | _ => exact hr.elim
theorem none_of {h : Heap} {b : Addr} (hb : h.objs.size ≤ b) : h.get? b = none := by
  cases q : h.get? b with
  | none => rfl
  | some o => exact absurd (Nat.lt_of_lt_of_le (Heap.lt_size q) hb) (Nat.lt_irrefl _)
/-- set(xs), xs a list of keys -/
theorem set_of_list {l : Addr} {items : Array Value} (ks : List (Addr × K)) {Q : Value → Shared → Prop} (hh : A.handled = none) (hl : s.heap.IsList l items) (hit : items.toList = ks.map fun p => Value.ref p.1)
    (hk : ∀ p ∈ ks, κ.is s.heap p.2 p.1) (hfew : ks.length ≤ 76) (hu : A.units + 4 < cLine)
    (h : ∀ (h' : Heap) (tk : Nat) L es ep t, KSetAt κ h' s.heap.objs.size L es ep t → Taken ks ks.length L → (∀ b o, s.heap.get? b = some o → h'.get? b = some o) → Q (.ref s.heap.objs.size) { s with heap := h', toks := tk }) :
    wpAny (model P w) A (call (.type "set") [.ref l]) Q E s := by
  have hisz : items.size = ks.length := by
    have q := congrArg List.length hit
    rw [Array.length_toList, List.length_map] at q
    exact q
  have hol : ∃ o, s.heap.get? l = some o := hl.elim fun o ho => ⟨o, ho.1⟩
  have hlS : l < s.heap.objs.size := hol.elim fun o ho => Heap.lt_size ho
  refine set_call (Res := fun h' => ∃ L es ep t, KSetAt κ h' s.heap.objs.size L es ep t ∧ Taken ks ks.length L) hh hl (fun A' n' R hA uA en hR => ?_) (fun h' tk ⟨L, es, ep, t, a1, a2⟩ hk' => h h' tk L es ep t a1 a2 hk')
  subst en
  have hl1 : (s.heap.push (newSetO w)).IsList l items := hl.elim fun o ho => ⟨o, Heap.get?_push_of_some _ ho.1, ho.2⟩
  have hS : (s.heap.push (newSetO w)).get? s.heap.objs.size = some (newSetO w) := Heap.get?_push_size _ rfl
  have hneI : l ≠ (s.heap.push (newSetO w)).objs.size := by
    rw [Heap.size_push]; exact Nat.ne_of_lt (Nat.lt_succ_of_lt hlS)
  have hSf : s.heap.objs.size ∉ [(s.heap.push (newSetO w)).objs.size, l] := by
    rw [Heap.size_push]; simp only [List.mem_cons, List.mem_singleton, List.not_mem_nil, or_false, not_or]
    exact ⟨Nat.ne_of_lt (Nat.lt_succ_self _), Nat.ne_of_gt hlS⟩
  have hval : ∀ (i : Nat) (v : Value), items[i]? = some v → ∃ p, ks[i]? = some p ∧ v = .ref p.1 := fun i v hv => by
    have q : items.toList[i]? = some v := by rw [Array.getElem?_toList]; exact hv
    rw [hit, List.getElem?_map] at q
    cases hq : ks[i]? with
    | none => rw [hq] at q; cases q
    | some p => rw [hq] at q; exact ⟨p, rfl, (Option.some.inj q).symm⟩
  refine fill_loop (κ := κ) ((Walks.list (A := A'.in1) (by simpa using hA) _ l hneI items).toS) s.heap.objs.size
    hSf ks hisz hfew hval s.heap hk (none_of (Nat.le_refl _)) (fun b hb => none_of (by
      rw [List.mem_singleton.mp hb, Heap.size_push]
      exact Nat.le_succ _)) (by show A'.units + 1 < cLine; omega) (items.size - 0) 0 _ (by omega) (Nat.zero_le _)
    ⟨⟨_, Heap.get?_push_size _ rfl, rfl, rfl⟩, (hl1.push _)⟩ (fun b o e => Heap.get?_push_of_some _ (Heap.get?_push_of_some _ e))
    ⟨[], #[], 0, _, kset_new (Heap.get?_push_of_some _ hS), Taken.zero ks⟩ fun s' L es ep t hm hS' g' hkp => ?_
  obtain ⟨h', g2, d', tk', os'⟩ := s'
  obtain rfl : g2 = s.gens := hm.gens
  obtain rfl : d' = s.drawn := hm.drawn
  obtain rfl : os' = s.os := hm.os
  rw [hisz] at g'
  exact hR h' tk' ⟨L, es, ep, t, hS', g'⟩ hkp
/-- set(xs), xs a list of ints -/
theorem set_of_ints {l : Addr} {items : Array Value} (ns : List Int) {Q : Value → Shared → Prop} (hh : A.handled = none) (hl : s.heap.IsList l items) (hit : IntsAre items.toList ns) (hb : ns.length + 1 < scanBound)
    (h : ∀ (h' : Heap) (tk c : Nat), SetR w h' s.heap.objs.size (fun j => decide (j ∈ ns)) c → c ≤ ns.length → (∀ b o, s.heap.get? b = some o → h'.get? b = some o) → Q (.ref s.heap.objs.size) { s with heap := h', toks := tk }) :
    wpAny (model P w) A (call (.type "set") [.ref l]) Q E s := by
  have hisz : items.size = ns.length := by
    have q := IntsAre.length hit
    rw [Array.length_toList] at q
    exact q
  have hol : ∃ o, s.heap.get? l = some o := hl.elim fun o ho => ⟨o, ho.1⟩
  have hlS : l < s.heap.objs.size := hol.elim fun o ho => Heap.lt_size ho
  refine set_call (Res := fun h' => ∃ c, c ≤ ns.length ∧ SetR w h' s.heap.objs.size (fun j => decide (j ∈ ns)) c) hh hl (fun A' n' R hA uA en hR => ?_) (fun h' tk ⟨c, a1, a2⟩ hk' => h h' tk c a2 a1 hk')
  subst en
  have hl1 : (s.heap.push (newSetO w)).IsList l items := hl.elim fun o ho => ⟨o, Heap.get?_push_of_some _ ho.1, ho.2⟩
  have hS : (s.heap.push (newSetO w)).get? s.heap.objs.size = some (newSetO w) := Heap.get?_push_size _ rfl
  have hneI : l ≠ (s.heap.push (newSetO w)).objs.size := by
    rw [Heap.size_push]; exact Nat.ne_of_lt (Nat.lt_succ_of_lt hlS)
  have hSf : s.heap.objs.size ∉ [(s.heap.push (newSetO w)).objs.size, l] := by
    rw [Heap.size_push]; simp only [List.mem_cons, List.mem_singleton, List.not_mem_nil, or_false, not_or]
    exact ⟨Nat.ne_of_lt (Nat.lt_succ_self _), Nat.ne_of_gt hlS⟩
  have hval : ∀ (i : Nat) (v : Value), items[i]? = some v → ∃ k t, ns[i]? = some k ∧ v = .int k t := fun i v hv => by
    have hi : i < ns.length := by rw [← hisz]; exact (Array.getElem?_eq_some_iff.mp hv).1
    obtain ⟨t, e⟩ := PyProof.Rows.IntsAre.int_at hit i v (by rw [Array.getElem?_toList]; exact hv)
    refine ⟨ns[i], t, List.getElem?_eq_getElem hi, ?_⟩
    rw [e, List.getD_eq_getElem?_getD, List.getElem?_eq_getElem hi]
    rfl
  refine set_update_ints ((Walks.list (A := A'.in1) (by simpa using hA) _ l hneI items).toS) s.heap.objs.size
    hSf ns hisz hb hval (items.size - 0) 0 _ (by omega) (Nat.zero_le _)
    ⟨⟨_, Heap.get?_push_size _ rfl, rfl, rfl⟩, (hl1.push _)⟩ ⟨0, Nat.le_refl 0, setR_new_at (Heap.get?_push_of_some _ hS)⟩ fun s' c hm hc hS' => ?_
  obtain ⟨h', g2, d', tk', os'⟩ := s'
  obtain rfl : g2 = s.gens := hm.gens
  obtain rfl : d' = s.drawn := hm.drawn
  obtain rfl : os' = s.os := hm.os
  rw [hisz] at hc
  refine hR h' tk' ⟨c, hc, hS'⟩ fun b o e => hm.heap b o ?_ (Heap.get?_push_of_some _ (Heap.get?_push_of_some _ e))
  have hb0 : b < s.heap.objs.size := Heap.lt_size e
  rw [Heap.size_push]
  simp only [List.mem_cons, List.mem_singleton, List.not_mem_nil, or_false, not_or]
  exact ⟨Nat.ne_of_lt hb0, Nat.ne_of_lt (Nat.lt_succ_of_lt hb0)⟩
end
end KS

/-! Defs that may ask for repr: as the layer's defs, but nothing is being shown around them (no guard stands on the stack). -/
namespace GL
open PySem PySem.Spec PyProof.Rows L2
structure RoomG (k : Nat) (A : Around) : Prop where
  room : Room k A
  gd : A.guards = some []
theorem RoomG.mono {j k : Nat} {A : Around} (r : RoomG k A) (h : j ≤ k) : RoomG j A := ⟨r.room.mono h, r.gd⟩
theorem RoomG.deeper {k : Nat} {A : Around} (r : RoomG (k + 1) A) (env : Env) : RoomG k (A.deeper env) := ⟨r.room.deeper env, r.gd⟩
structure FnG (P : Program) (w : World) (K : PySem.W.Frag) (mg : Str → Option Value) (base : Heap) (CX : CXT) (k : Nat) (f : Addr) (fd : FuncData) (ps : List Str) (sp : Sp) : Prop where
  len : ∀ vs H Q E, sp vs H Q E → vs.length = ps.length
  run : ∀ (A : Around) (outer : List Env) (s : Shared) (H : Hp) (args : Args) (us : List Value) (vs : List V) (Q : VK) (E : XK), RoomG k A → Env0 P w K mg base A outer s H → BindsTo s fd args (ps.zip us) → Vals vs us → sp vs H Q E →
    codeAny (model P w) A (.call (.ref f) args) (CR CX outer P w H s Q E) s
section
variable {P : Program} {w : World} {K : PySem.W.Frag} {mg : Str → Option Value} {base : Heap} {CX : CXT} {k : Nat} {f : Addr} {fd : FuncData} {ps : List Str} {sp : Sp}
theorem FnG.mono {j : Nat} (F : FnG P w K mg base CX j f fd ps sp) (h : j ≤ k) : FnG P w K mg base CX k f fd ps sp := ⟨F.len, fun A outer s H args us vs Q E hr => F.run A outer s H args us vs Q E (hr.mono h)⟩
theorem FnG.of (F : FnOk P w K mg base CX k f fd ps sp) : FnG P w K mg base CX k f fd ps sp := ⟨F.len, fun A outer s H args us vs Q E hr => F.run A outer s H args us vs Q E hr.room⟩
theorem fn_ofG {name qual : Str} {params : Arguments} {body : List Stmt} {scope : Scope} {dV kV doc pm cdv ct oc : Value} {an od : Option Addr}
    {osl : Array (Option Value)} {N : List Str} (lk : K.lookup f = some ⟨oc, od, .func (PySem.W.fnOf name qual params body scope dV kV doc pm an cdv ct), osl⟩) (hcd : PySem.W.codeIn K cdv qual = true) (S : FnScope N ps scope)
    (len : ∀ vs H Q E, sp vs H Q E → vs.length = ps.length)
    (hbody : ∀ (A : Around) (outer : List Env) (s : Shared) (H : Hp) (vs : List V) (Q : VK) (E : XK), RoomG k (A.deeper (envOfC qual scope s.heap.objs.size f cdv)) → sp vs H Q E →
      ∃ t, PSs (cxOf CX P w K mg base N qual scope f cdv A outer s H E) body t ∧ t { nx := fun _ H' => Q .non H', rt := Q } (start N vs) H) :
    FnG P w K mg base CX (k + 1) f (PySem.W.fnOf name qual params body scope dV kV doc pm an cdv ct) ps sp := by
  refine ⟨len, fun A outer s H args us vs Q E hr e0 hb r hsp => ?_⟩
  have hl := len _ _ _ _ hsp
  have KX : K.In s.heap := e0.mod.kin.keeps fun b o e => (e0.bs b o e).1
  have lim : s.heap.NoLimit := e0.mod.nolimit.keeps fun b o e => (e0.bs b o e).1
  have hkind : ∀ y ∈ ps.zip us, scope.names.lookup y.1 = some .local ∨ (scope.names.lookup y.1 = some .cell ∧ ((cellsFrom (s.heap.objs.size + 1) scope.names []).lookup y.1).isSome = true) := by
    rintro ⟨n, v⟩ hy
    exact (S.par n (List.of_mem_zip hy).1).elim .inl fun q => .inr ⟨q, PySem.W.cellsFrom_some _ _ _ (.inl q)⟩
  refine codeAny_call_function hr.room.depth (KX _ _ lk) rfl S.co S.gen rfl (PySem.W.codeRec_of KX hcd) (hb _ _ _ _ ?_)
  refine wpAny_newFunctionEnv_cells S.kind hkind fun env he s1 x => ?_
  subst he
  refine ⟨lim.keeps x.toInCall.keep, codeAny_func ?_⟩
  obtain ⟨t, ht, hq⟩ := hbody A outer s H vs Q E (hr.deeper _) hsp
  have I : Inv (cxOf CX P w K mg base N qual scope f cdv A outer s H E) [] (start N vs) H s1 := inv_start S hr.room.hd e0 hl r x
  refine wpAny_mono (ht.run [] s1 (start N vs) H _ I hq) (fun fl s' hs => ?_) fun e s' hs => hs
  cases fl with
  | ret u =>
    obtain ⟨v, σ', H', J, rv, q⟩ := hs
    exact ⟨v, H', J.os, J.bare, J.base, J.hok, rv, q⟩
  | next =>
    obtain ⟨σ', H', J, q⟩ := hs
    exact ⟨V.non, H', J.os, J.bare, J.base, J.hok, rfl, q⟩
  | brk => exact hs.elim fun _ z => z.elim fun _ z => z.2.elim
  | cont => exact hs.elim fun _ z => z.elim fun _ z => z.2.elim
/-- as Fun.ok -/
theorem okG {x qual : Str} {st : Stmt} {N : List Str} (F : Fun K x qual st f fd) (S : FnScope N ps (defScope st)) (len : ∀ vs H Q E, sp vs H Q E → vs.length = ps.length)
    (hbody : ∀ (cdv : Value) (A : Around) (outer : List Env) (s : Shared) (H : Hp) (vs : List V) (Q : VK) (E : XK), RoomG k (A.deeper (envOfC qual (defScope st) s.heap.objs.size f cdv)) → sp vs H Q E →
      ∃ t, PSs (cxOf CX0 P w K mg base N qual (defScope st) f cdv A outer s H E).nox (defBody st) t ∧ t { nx := fun _ H' => Q .non H', rt := Q } (start N vs) H) : FnG P w K mg base CX0 (k + 1) f fd ps sp := by
  obtain ⟨oc, od, kV, doc, pm, an, cdv, ct, osl, rfl, lk, hcd⟩ := F.ex
  refine fn_ofG lk hcd S len fun A outer s H vs Q E hr hsp => ?_
  obtain ⟨t, h, q⟩ := hbody cdv A outer s H vs Q E hr hsp
  exact ⟨t, h.nox, q⟩
end
section
variable {X : Cx} {CX : CXT} {k : Nat} {f : Addr} {fd : FuncData} {ps ks : List Str} {sp : Sp} {dvs : List V} {ds : List Value} {E : XK} {x : Str} {p pos : Pos} {e : Expr} {es : List Expr} {t tk : TA} {kws : List Keyword} {g : List Value → List Value → List Value} {gV : List V → List V → List V}
theorem end_fn {pins : List (Addr × Obj)} {σ : L2.St} {H : Hp} {s s' : Shared} {Q : VK} {r : Result} (hx : Passes CX X E) (I : Inv X pins σ H s) (hq : CR CX X.stack X.prog X.w H s Q E r s') :
    match r with | .ok (.ret u) => EP X pins σ Q u s' | .ok _ => False | .error er => X.xe er s' := by
  cases r with
  | error er => exact hx pins σ H s er s' I hq
  | ok fl =>
    cases fl with
    | ret u => exact I.after hq
    | next => exact hq
    | brk => exact hq
    | cont => exact hq
theorem run_fnG {pins : List (Addr × Obj)} {σ : L2.St} {H : Hp} {s : Shared} {Q : VK} {us : List Value} {vs : List V} (F : FnG X.prog X.w X.K X.mg X.base CX k f fd ps sp) (hr : RoomG k X.A) (hb : Binds X.K fd ps ds) (hd : Vals dvs ds) (hx : Passes CX X E)
    (I : Inv X pins σ H s) (r : Vals vs us) (h : sp (vs ++ dvs) H Q E) : wpAny (model X.prog X.w) X.A (call (.ref f) us) (EP X pins σ Q) X.xe s := by
  have r2 : Vals (vs ++ dvs) (us ++ ds) := r.append hd
  have hl : (us ++ ds).length = ps.length := by rw [← r2.length]; exact F.len _ _ _ _ h
  refine wpAny_call (codeAny_mono (F.run X.A X.stack s H ⟨us, []⟩ (us ++ ds) (vs ++ dvs) Q E hr I.env0 (hb s us I.kIn hl) r2 h) fun r s' hq => ?_)
  have z := end_fn hx I hq
  cases r with
  | error er => exact z
  | ok fl => cases fl <;> exact z
/-- f(e, ..) -/
theorem pe_callG (F : FnG X.prog X.w X.K X.mg X.base CX k f fd ps sp) (hr : RoomG k X.A) (hg : Gl X x) (hm : X.mg x = some (.ref f)) (hk : PySem.W.keepIn X.K (.ref f) = true) (hb : Binds X.K fd ps ds) (hd : Vals dvs ds) (hx : Passes CX X E)
    (ha : PA X (e :: es) t) (hdb : (x == ("__debug__" : Str)) = false := by decide) (he : starEach (e :: es) X.env = (false, eval e X.env) :: starEach es X.env := by rfl) (hpl : (backTo pos (starEach es X.env)).any (·.1) = false := by rfl) :
    PE X (.Call (.Name x p) (e :: es) [] pos) (tCall sp dvs E t) := by
  refine ⟨fun pins s σ H Q I h => wpAny_Call_Name_kw (ld_glob I hg hm ?_ hdb)⟩
  exact PySem.W.callWith_K (h₀ := X.base) I.ok.mod.kin hk (thn (ha.run pos pins s σ H _ I h) fun us s1 ⟨vs, H1, I1, r, q⟩ => ⟨I1.kIn, run_fnG F hr hb hd hx I1 r q⟩) he hpl
/-- f(e, .., k = v, ..) -/
theorem pe_callKG (F : FnG X.prog X.w X.K X.mg X.base CX k f fd ps sp) (hr : RoomG k X.A) (hg : Gl X x) (hm : X.mg x = some (.ref f)) (hk : PySem.W.keepIn X.K (.ref f) = true) (hb : KBinds X.K fd ps ks g gV) (hx : Passes CX X E)
    (ha : PA X (e :: es) t) (hkw : PK X kws tk) (hall : (backToKw pos (keywordEach kws X.env)).all (·.1.isSome) = true := by rfl) (hks : (backToKw pos (keywordEach kws X.env)).filterMap (·.1) = ks := by rfl)
    (hdb : (x == ("__debug__" : Str)) = false := by decide) (he : starEach (e :: es) X.env = (false, eval e X.env) :: starEach es X.env := by rfl)
    (hpl : ((backTo pos (starEach (e :: es) X.env)).any (·.1) || (backToKw pos (keywordEach kws X.env)).any (·.1.isNone)) = false := by rfl) :
    PE X (.Call (.Name x p) (e :: es) kws pos) (tCallK sp gV E t tk) := by
  refine ⟨fun pins s σ H Q I h => wpAny_Call_Name_kw (ld_glob I hg hm ?_ hdb)⟩
  refine PySem.W.callWith_KW (h₀ := X.base) I.ok.mod.kin hk hall (thn (ha.run pos pins s σ H _ I h) fun us s1 ⟨vs, H1, I1, r, q⟩ => ?_) hpl he
  refine thn (hkw.run pos pins s1 σ H1 _ I1 q) fun ws s2 ⟨zs, H2, I2, rz, q2⟩ => ⟨I2.kIn, ?_⟩
  rw [hks]
  have r2 := hb.rel r rz
  have hl : (g us ws).length = ps.length := by rw [← r2.length]; exact F.len _ _ _ _ q2
  refine wpAny_call (codeAny_mono (F.run X.A X.stack s2 H2 ⟨us, ks.zip ws⟩ (g us ws) (gV vs zs) Q E hr I2.env0 (hb.to s2 us ws I2.kIn hl) r2 q2) fun r s' hq => ?_)
  have z := end_fn hx I2 hq
  cases r with
  | error er => exact z
  | ok fl => cases fl <;> exact z
end

/-- what the law leaves, its own call -/
theorem law_runG {P : Program} {w : World} {K : PySem.W.Frag} {mg mb : Str → Option Value} {CX : CXT} {k : Nat} {fa a : Addr} {fd : FuncData} {x : Str} {sp : Sp} {s₁ : Shared} {vs : List Value} {ns : List Int}
    (KX : K.In s₁.heap) (hns : s₁.heap.Ns mainGlobals mg) (hb : s₁.heap.Ns builtinsNs mb) (hbb : ∀ x : Str, x ≠ "__name__" → mb x = bootBuiltins x) (hlim : s₁.heap.NoLimit) (hg : s₁.gens = #[])
    (ha : s₁.heap.get? a = some { cls := .type "list", data := .seq vs.toArray }) (hi : IntsAre vs ns) (hl : ns.length ≤ sizeLine) (hr : Room k callerA)
    (F : ∀ base : Heap, K.In base → base.Ns mainGlobals mg → FnG P w K mg base CX k fa fd [x] sp) (hbind : ∀ (s : Shared) (u : Value), BindsTo s fd ⟨[u], []⟩ [(x, u)])
    (hsp : ∀ H : Hp, Only H → SqL K H a (ns.map V.int) → sp [.ref a] H (fun v _ => v = .bl true) fun _ _ _ => False)
    (hCX : ∀ H e s', CX [] H s₁ (fun _ _ _ => False) e s' → False) :
    codeAny (model P w) callerA (.call (.ref fa) ⟨[.ref a], []⟩) (fun r s' => r = .ok (.ret (.bool true)) ∧ OldK s₁.heap s'.heap ∧ s'.os = s₁.os ∧ AllBare s'.gens) s₁ := by
  have rv := vals_ints hi
  have lenV := hi.length
  have core : ∀ H : Hp, Only H → SqL K H a (ns.map V.int) → HOk P w H s₁.heap → (∀ b, H b ≠ none → b = a) → (H a ≠ none → K.lookup a = none) →
      codeAny (model P w) callerA (.call (.ref fa) ⟨[.ref a], []⟩) (fun r s' => r = .ok (.ret (.bool true)) ∧ OldK s₁.heap s'.heap ∧ s'.os = s₁.os ∧ AllBare s'.gens) s₁ := by
    intro H hO hS hok hA hK
    have only : ∀ {b : Addr} {u : HO}, H b = some u → b = a := fun {b u} q => hA b (by rw [q]; exact Option.some_ne_none u)
    have noA : ∀ {b : Addr} {o : Obj} {es : Array DictEntry} {ep : Nat}, s₁.heap.get? b = some o → o.data = .dict es ep → H b = none := fun {b o es ep} e d => by
      cases q : H b with
      | none => rfl
      | some u =>
        rw [only q, ha] at e
        cases e
        cases d
    have nsK : ∀ {b : Addr} {m : Str → Option Value}, s₁.heap.Ns b m → (hidT s₁.heap H).Ns b m := fun {b m} ⟨o, es, ep, e, d, r⟩ => ⟨o, es, ep, hidT_get e (noA e d), d, r⟩
    have hKb : K.In (hidT s₁.heap H) := fun b o e => hidT_get (KX b o e) (by
      cases q : H b with
      | none => rfl
      | some u =>
        have z := only q
        subst z
        rw [hK (by rw [q]; exact Option.some_ne_none u)] at e
        cases e)
    have hM : Mod K mg (hidT s₁.heap H) := ⟨hKb, nsK hns, ⟨mb, nsK hb, hbb⟩, let ⟨mc, h1, h2⟩ := hlim; ⟨mc, nsK h1, h2⟩⟩
    have e0 : Env0 P w K mg (hidT s₁.heap H) callerA [] s₁ H := ⟨rfl, hM, fun b o e => of_hidT e, Nat.le_of_eq (hidT_size _ _), trivial, fun b hb => absurd (show b ∈ ([] : List Addr) from hb) (by simp), hok, .of_eq hg⟩
    refine codeAny_mono ((F _ hKb (nsK hns)).run callerA [] s₁ H ⟨[.ref a], []⟩ [.ref a] [.ref a] _ _ ⟨hr, rfl⟩ e0 (hbind s₁ (.ref a)) (.cons rfl .nil) (hsp H hO hS)) fun r s' h => ?_
    cases r with
    | error e => exact (hCX H e s' h).elim
    | ok fl =>
      cases fl with
      | next => exact False.elim h
      | brk => exact False.elim h
      | cont => exact False.elim h
      | ret u =>
        obtain ⟨v, H', os, bare, un, hok', r', q⟩ := h
        obtain rfl : v = .bl true := q
        obtain rfl : u = Value.bool true := r'
        refine ⟨rfl, OldK.of_keep fun b o e => ?_, os, bare⟩
        cases q : H b with
        | none => exact un.keep b o e q (by intro z; exact absurd (show b ∈ ([] : List Addr) from z) (by simp)) (by simp)
        | some u =>
          rcases hO b with z | ⟨ob, xs, z⟩
          · rw [q] at z; cases z
          · have z2 := un.frzs b ob _ z
            obtain ⟨e1, _⟩ := hok b _ z
            obtain ⟨e2, _⟩ := hok' b _ z2
            rw [e] at e1; cases e1
            exact e2
  cases hk : K.lookup a with
  | some o =>
    have e := KX a o hk
    rw [ha] at e
    cases e
    refine core (fun _ => none) (fun _ => .inl rfl) (.inr ⟨_, vs.toArray, _, hk, rfl, rfl, rfl, by rw [List.size_toArray, lenV]; exact hl, by simpa using rv⟩) (fun b u z => by have z' : (none : Option HO) = some u := z; cases z') (fun b z => absurd rfl z) fun z => absurd rfl z
  | none =>
    have at_a : ∀ (b : Addr) (u : HO), (if b = a then some (HO.frz { cls := .type "list", data := .seq vs.toArray } (.lst (ns.map V.int))) else none) = some u → b = a ∧ u = HO.frz { cls := .type "list", data := .seq vs.toArray } (.lst (ns.map V.int)) := fun b u z => by
      by_cases hb : b = a
      · rw [if_pos hb] at z
        exact ⟨hb, (Option.some.inj z).symm⟩
      · rw [if_neg hb] at z
        cases z
    refine core (fun b => if b = a then some (.frz { cls := .type "list", data := .seq vs.toArray } (.lst (ns.map V.int))) else none) (fun b => ?_) (.inl (.inr ⟨{ cls := .type "list", data := .seq vs.toArray }, if_pos rfl⟩)) (fun b u z => ?_) (fun b z => ?_) fun _ => hk
    · by_cases hb : b = a
      · exact .inr ⟨_, _, if_pos hb⟩
      · exact .inl (if_neg hb)
    · obtain ⟨rfl, rfl⟩ := at_a b u z
      exact ⟨ha, by rw [List.length_map]; exact hl, vs, _, rv, ha⟩
    · cases q : (if b = a then some (HO.frz { cls := .type "list", data := .seq vs.toArray } (.lst (ns.map V.int))) else none) with
      | none => exact absurd q z
      | some u => exact (at_a b u q).1

/-- the goal that k_head leaves (case hc), from the law's promise -/
theorem walk_ofG {l : PySem.W.OpenLaw} {n k : Nat} {q : Program} {loose : List Str} {XP : (Str → Option Value) → Heap → Prop} {YP : World → Heap → Prop} {d : DefRec} {K : Params → PySem.W.Frag} {CX : World → CXT} {sp : World → Sp} {x : Str}
    (hn : l.most = some n) (hn2 : n ≤ sizeLine) (hdf : d.params.defaults = []) (hr : Room k callerA)
    (hY : ∀ (w : World) (h : Heap), YP w h → (K w.params).In h)
    (F : ∀ (w : World) (mg : Str → Option Value) (fa : Addr) (h : Heap), (K w.params).In h → h.Ns mainGlobals mg → mg d.name = some (.ref fa) →
      ∃ fd : FuncData, (∀ (s : Shared) (u : Value), BindsTo s fd ⟨[u], []⟩ [(x, u)]) ∧
        ∀ base : Heap, (K w.params).In base → base.Ns mainGlobals mg → FnG l.prog w (K w.params) mg base (CX w) k fa fd [x] (sp w))
    (hsp : ∀ (w : World) (H : Hp) (a : Addr) (ns : List Int), ns.length ≤ n → Only H → SqL (K w.params) H a (ns.map V.int) → sp w [.ref a] H (fun v _ => v = .bl true) fun _ _ _ => False)
    (hCX : ∀ (w : World) (H : Hp) (s : Shared) (e : Value) (s' : Shared), CX w [] H s (fun _ _ _ => False) e s' → False) :
    PySem.W.WalkO q loose XP YP l.row.toRowW d [] (fun f vs => PySem.call f vs) := by
  refine Att.attach_call hn hdf fun w s₀ s₁ mg mb fa o pm cd doc a vs ns G Y ho hd hcd hmg hobj hints hlen hg => ?_
  have KX := hY w _ Y
  obtain ⟨fd, hb, hF⟩ := F w mg fa _ KX G.T.g hmg
  exact law_runG KX G.T.g G.T.b G.T.builtins G.T.nolimit hg hobj hints (Nat.le_trans hlen hn2) hr hF hb (fun H hO hS => hsp w H a ns hlen hO hS) fun H e s' => hCX w H s₁ e s'
end GL

/-! Rules of the layer over data: repr; set(list of flat tuples), set(list of ints), sorted of such sets; < of tuples. -/
namespace KS
open PySem PySem.Spec PyProof.Rows L2
def atomD : Key → PyData
  | .inl i => .int i
  | .inr x => .str x
/-- a flat tuple as data -/
def encK (k : List Key) : PyData := .tuple (k.map atomD)
section
variable {P : Program} {w : World} {A : Around} {E : Value → Shared → Prop} {s : Shared}
theorem reads_items {h : Heap} : ∀ {k : List Key} {vs : List Value}, ItemsAre (mixKind P w) k vs → ReadsAll h vs (k.map atomD) []
  | _, _, .nil => .nil
  | _, _, @ItemsAre.cons _ _ _ _ _ k v ks vs h1 t => by
    have hv : ∃ as, Reads h v (atomD k) as ∧ as = [] := by
      rcases keyIs_shape (show keyIs k v = true from h1) with ⟨i, tk, rfl, rfl⟩ | ⟨x, tk, rfl, rfl⟩
      · exact ⟨_, Reads.int i tk, rfl⟩
      · exact ⟨_, Reads.str x tk, rfl⟩
    obtain ⟨as, r, rfl⟩ := hv
    exact ReadsAll.cons r (reads_items t)
theorem reads_key {h : Heap} {k : List Key} {b : Addr} (x : IsTupleKey (mixKind P w) h k b) : Reads h (.ref b) (encK k) [] := by
  obtain ⟨o, its, n, ho, hc, hd, hi⟩ := x
  exact Reads.tuple ho hc hd (reads_items hi)
theorem depth_atoms : ∀ k : List Key, PyData.depthAll (k.map atomD) = 0
  | [] => by simp [PyData.depthAll]
  | x :: k => by
    rw [List.map_cons, PyData.depthAll, depth_atoms k]
    cases x <;> simp [atomD, PyData.depth]
theorem depth_key (k : List Key) : (encK k).depth = 1 := by
  unfold encK
  rw [PyData.depth, depth_atoms]
theorem each_refs : ∀ (L : List (Addr × List Key)), W.EachIs (fun v (p : Addr × List Key) => v = Value.ref p.1) (L.map fun p => Value.ref p.1) L
  | [] => .nil
  | p :: L => .cons rfl (each_refs L)
theorem refs_each : ∀ {vs : List Value} {L : List (Addr × List Key)}, W.EachIs (fun v (p : Addr × List Key) => v = Value.ref p.1) vs L → vs = L.map fun p => Value.ref p.1
  | _, _, .nil => rfl
  | _, _, .cons h t => by rw [h, refs_each t]; rfl
theorem dataLe_total {β : Type} (k : β → PyData) : W.TotalLe (W.dataLe false k) := W.sortLe_total _ _ _
theorem nodup_map {α β : Type} {f : α → β} {l : List α} (h : (l.map f).Nodup) : l.Nodup := List.Pairwise.of_map f (fun _ _ hne e => hne (congrArg f e)) h

/-- sorted(s), s a set of flat tuples of one shape -/
theorem sorted_kset {a : Addr} {L : List (Addr × List Key)} {es : Array (Int × Value)} {ep : Nat} {t : SetTable} {Q : Value → Shared → Prop} (R : KSetAt (mix P w) s.heap a L es ep t) (hh : A.handled = none) (hu : A.units + 64 < cLine)
    (hal : ∀ p ∈ L, ∀ q ∈ L, W.alike (encK p.2) (encK q.2) = true) (hne : ∀ p ∈ L, p.2 ≠ [])
    (hQ : ∀ s' p (out : Array Value) (c : Nat) (L' : List (Addr × List Key)), (∀ b o, s.heap.get? b = some o → s'.heap.get? b = some o) → s'.gens = s.gens → s'.os = s.os → s.heap.objs.size ≤ p →
      s'.heap.get? p = some (seqObj "list" out c) → out.toList = L'.map (fun q => Value.ref q.1) → L'.Perm L → L'.Pairwise (fun q r => W.dataLt (encK r.2) (encK q.2) = false) → Q (.ref p) s') :
    wpAny (model P w) A (call (.builtin "sorted") [.ref a]) Q E s := by
  obtain ⟨o, ho, hex, hd⟩ := R.obj
  have hsz := R.size
  have hfew := R.few
  refine Calls.call_function_entry kind_sorted plain_sorted entry_sorted (args_sorted1 _) ?_
  unfold Builtin.«sorted»
  refine wpAny_bind (m := checkCount "sorted" 1 1 _) (wpAny_pure ?_)
  refine wpAny_bind (collect_set (A := A.in1) hh ⟨o, ho, hex.1, hd⟩ R.fits (by unfold scanBound; omega) R.tab.ris R.led fun s1 vs k1 hz g1 o1 pm => ?_)
  have hes : es.toList.map (·.2) = L.map fun q => Value.ref q.1 := by
    rw [R.rows]
    unfold krows
    rw [List.map_map]
    rfl
  rw [hes] at pm
  have ord : ∀ vs : List Value, (∀ v ∈ vs, ∃ q ∈ L, v = Value.ref q.1) → ∃ L1 : List (Addr × List Key), vs = L1.map (fun q => Value.ref q.1) ∧ ∀ q ∈ L1, q ∈ L := by
    intro vs
    induction vs with
    | nil => exact fun _ => ⟨[], rfl, fun q hq => (nomatch hq)⟩
    | cons v vs ih =>
      intro hv
      obtain ⟨q, hq, e⟩ := hv v List.mem_cons_self
      obtain ⟨L1, e1, hs⟩ := ih fun u hu => hv u (List.mem_cons_of_mem _ hu)
      refine ⟨q :: L1, by rw [List.map_cons, e, e1], fun r hr => ?_⟩
      rcases List.mem_cons.mp hr with rfl | z
      · exact hq
      · exact hs r z
  have one : ∀ q ∈ L, ∀ r ∈ L, q.1 = r.1 → q = r := fun q hq r hr e => by
    have a1 := R.mem q hq
    have a2 := R.mem r hr
    rw [e] at a1
    exact Prod.ext e ((mix P w).inj a1 a2)
  obtain ⟨L1, e1, hs1⟩ := ord vs fun v hv => by
    obtain ⟨q, hq, e⟩ := List.mem_map.mp (pm.mem_iff.mp hv)
    exact ⟨q, hq, e.symm⟩
  have pL : L1.Perm L := by
    rw [e1] at pm
    have nL : L.Nodup := nodup_map R.nd
    have nref : (L.map fun q => Value.ref q.1).Nodup := List.pairwise_map.mpr (List.Pairwise.imp_of_mem (fun {q r} hq hr hne e => by
      injection e with e
      exact hne (one q hq r hr e)) nL)
    have n1 : L1.Nodup := nodup_map (pm.nodup_iff.mpr nref)
    refine (List.perm_ext_iff_of_nodup n1 nL).mpr fun q => ⟨hs1 q, fun hq => ?_⟩
    obtain ⟨r, hr, e⟩ := List.mem_map.mp (pm.mem_iff.mpr (List.mem_map.mpr ⟨q, hq, rfl⟩))
    injection e with e
    rw [← one r (hs1 r hr) q hq e]
    exact hr
  have hvl : vs.length ≤ 76 := by rw [pm.length_eq, List.length_map]; exact hfew
  refine wpAny_bind (wpAny_newList ?_ (by rw [sizeLine_eq]; omega))
  have hoL : (s1.heap.push (seqObj "list" vs.toArray 0)).get? s1.heap.objs.size = some (seqObj "list" vs.toArray 0) := Heap.get?_push_size _ rfl
  have hL1 : L1.length ≤ 76 := by rw [pL.length_eq]; exact hfew
  have each : W.EachIs (fun v (p : Addr × List Key) => ∃ as, Reads (s1.heap.push (seqObj "list" vs.toArray 0)) v (encK p.2) as ∧ s1.heap.objs.size ∉ as) vs L1 := by
    rw [e1]
    have key : ∀ M : List (Addr × List Key), (∀ q ∈ M, q ∈ L) → W.EachIs (fun v (p : Addr × List Key) => ∃ as, Reads (s1.heap.push (seqObj "list" (L1.map fun q => Value.ref q.1).toArray 0)) v (encK p.2) as ∧ s1.heap.objs.size ∉ as) (M.map fun p => Value.ref p.1) M := by
      intro M
      induction M with
      | nil => exact fun _ => .nil
      | cons p M ih =>
        intro hM
        refine .cons ⟨[], reads_key (P := P) (w := w) ((mix P w).keep (R.mem p (hM p List.mem_cons_self)) fun b o _ _ hb _ => Heap.get?_push_of_some _ (k1 b o hb)), List.not_mem_nil⟩ (ih fun q hq => hM q (List.mem_cons_of_mem _ hq))
    exact key L1 hs1
  refine wpAny_bind (wpAny_holding (W.list_sort_data (s := { s1 with heap := s1.heap.push (seqObj "list" vs.toArray 0) }) (bs := L1) (enc := fun p => encK p.2) (R := fun v p => v = Value.ref p.1) hoL (by rw [e1]; exact each_refs L1) each ?_ ?_ (by rw [sizeLine_eq]; omega) (fun b _ => ?_) fun out hlen hout => ?_))
  · intro d hd d' hd'
    obtain ⟨p, hp, rfl⟩ := List.mem_map.mp hd
    obtain ⟨q, hq, rfl⟩ := List.mem_map.mp hd'
    exact hal p (hs1 p hp) q (hs1 q hq)
  · refine .inl fun d hd => ?_
    obtain ⟨p, hp, rfl⟩ := List.mem_map.mp hd
    cases e : p.2 with
    | nil => exact absurd e (hne p (hs1 p hp))
    | cons x r =>
      refine ⟨atomD x, r.map atomD, ?_⟩
      unfold encK
      rw [List.map_cons]
  · rw [depth_key]
    show A.units + 1 + 1 + 1 < cLine
    omega
  · obtain ⟨c, hc⟩ := sortedHeap_at (vs := vs) (out := out.toArray) hoL
    have eo := refs_each hout
    refine wpAny_pure ⟨_, rfl, hQ _ s1.heap.objs.size out.toArray c (L1.mergeSort (W.dataLe false fun p => encK p.2)) (fun b u e => ?_) g1 o1 hz hc (by simpa using eo) ((List.mergeSort_perm _ _).trans pL) ?_⟩
    · have q := k1 b u e
      have hlt := Heap.lt_size q
      show (sortedHeap (s1.heap.push (seqObj "list" vs.toArray 0)) s1.heap.objs.size vs out.toArray).get? b = some u
      rw [sortedHeap_old (Nat.ne_of_lt hlt) (by rw [size_push']; exact Nat.lt_succ_of_lt hlt)]
      exact Heap.get?_push_of_some _ q
    · refine (W.sort_pairwise (dataLe_total fun p : Addr × List Key => encK p.2) L1).imp fun {p q} h => ?_
      have h' : (!W.dataLt (encK q.2) (encK p.2)) = true := h
      simpa using h'
end

/-- the set at a, its members aside -/
structure KSet0 (P : Program) (w : World) (h : Heap) (a : Addr) (L : List (Addr × List Key)) : Prop where
  ex : ∃ (es : Array (Int × Value)) (ep : Nat) (t : SetTable), (∃ o, h.get? a = some o ∧ o.ExactSet ∧ o.data = .set es ep t) ∧ es.toList = krows (mix P w) L ∧ TabOk t (L.map fun p => (mix P w).hash p.2) ∧ (L.map (·.2)).Nodup ∧
    (w.params.followText "set-order" = true ∨ t.led = true) ∧ L.length * 5 < t.mask * 3 ∧ L.length ≤ 76
def KSetO (P : Program) (w : World) (a : Addr) (L : List (Addr × List Key)) : HO := .ext fun h => KSet0 P w h a L
theorem kset0_of {P : Program} {w : World} {h : Heap} {a : Addr} {L : List (Addr × List Key)} {es : Array (Int × Value)} {ep : Nat} {t : SetTable} (R : KSetAt (mix P w) h a L es ep t) : KSet0 P w h a L :=
  ⟨es, ep, t, R.obj, R.rows, R.tab, R.nd, R.led, R.room, R.few⟩
theorem kset0_full {P : Program} {w : World} {h : Heap} {a : Addr} {L : List (Addr × List Key)} (R : KSet0 P w h a L) (ht : ∀ p ∈ L, (mix P w).is h p.2 p.1) : ∃ es ep t, KSetAt (mix P w) h a L es ep t := by
  obtain ⟨es, ep, t, h1, h2, h3, h4, h5, h6, h7⟩ := R.ex
  exact ⟨es, ep, t, h1, h2, h3, h4, ht, h5, h6, h7⟩
theorem ksetO_new {P : Program} {w : World} {H : Hp} {h : Heap} {a : Addr} {L : List (Addr × List Key)} (R : KSet0 P w h a L) : ObjOk P w H h a (KSetO P w a L) := by
  have ⟨es, ep, t, ⟨o, ho, r⟩, q⟩ := R.ex
  refine ⟨R, ⟨o, ho⟩, fun h1 h2 p k => ?_⟩
  have ⟨es', ep', t', ⟨o', ho', r'⟩, q'⟩ := KSet0.ex p
  exact ⟨es', ep', t', ⟨o', k o' ho', r'⟩, q'⟩
theorem kItems {P : Program} {w : World} : ∀ {k : List Key} {us : List Value}, Vals (k.map kV) us → ItemsAre (mixKind P w) k us
  | [], _, .nil => .nil
  | .inl n :: k, _, .cons r t => by
    obtain ⟨tk, rfl⟩ := r
    exact .cons (keyIs_int n tk) (kItems t)
  | .inr x :: k, _, .cons r t => by
    obtain ⟨tk, rfl⟩ := r
    exact .cons (keyIs_str x tk) (kItems t)
theorem kRefs : ∀ {ks : List (Addr × List Key)} {us : List Value}, Vals (ks.map fun p => V.ref p.1) us → us = ks.map fun p => Value.ref p.1
  | [], _, .nil => rfl
  | p :: ks, _, .cons r t => by
    cases r
    rw [kRefs t]
    rfl
theorem kVals : ∀ (ks : List (Addr × List Key)), Vals (ks.map fun p => V.ref p.1) (ks.map fun p => Value.ref p.1)
  | [] => .nil
  | p :: ks => .cons rfl (kVals ks)
section
variable {X : Cx}
theorem inv_key {pins : List (Addr × Obj)} {σ : L2.St} {H : Hp} {s : Shared} {b : Addr} {k : List Key} (I : L2.Inv X pins σ H s) (h : SqT X.K H b (k.map kV)) : IsTupleKey (mixKind X.prog X.w) s.heap k b := by
  obtain ⟨its, r, ⟨o, ho, hc, n, hd⟩, _⟩ := I.tuple h
  exact ⟨o, its.toArray, n, ho, hc, hd, by simpa using kItems r⟩
/-- set(xs), xs a list of flat tuples -/
def rSetK (K : PySem.W.Frag) (P : Program) (w : World) : List V → Hp → VK → Prop := fun xs H Q => ∃ (l : Addr) (ks : List (Addr × List Key)), xs = [V.ref l] ∧ SqL K H l (ks.map fun p => V.ref p.1) ∧ (∀ p ∈ ks, SqT K H p.1 (p.2.map kV)) ∧ ks.length ≤ 76 ∧
  ∀ a L, H a = none → (∀ p ∈ L, p ∈ ks) → (∀ p ∈ ks, p.2 ∈ L.map (·.2)) → (L.map (·.2)).Nodup → Q (.ref a) (upd H a (KSetO P w a L))
theorem cr_setK (hc : X.calm = true) (hu : X.A.units + 64 < cLine) : CallR X (.type "set") (rSetK X.K X.prog X.w) := by
  intro pins s σ H xs us Q I r h
  obtain ⟨l, ks, rfl, hl, hk, hf, q⟩ := h
  rw [Vals.ref1 r]
  obtain ⟨its, rv, pl, hz⟩ := I.list hl
  have hn : H s.heap.objs.size = none := I.hok.fresh (Nat.le_refl _)
  refine set_of_list (κ := mix X.prog X.w) ks (I.ok.hd hc) pl.isList (by simpa using kRefs rv) (fun p hp => inv_key I (hk p hp)) hf (by omega) fun h' tk L es ep t R g k => ?_
  refine ⟨.ref s.heap.objs.size, upd H s.heap.objs.size (KSetO X.prog X.w s.heap.objs.size L), I.laid (t' := tk) k (Nat.le_refl _) (ksetO_new (kset0_of R)), rfl, q _ L hn (fun p hp => List.mem_of_mem_take (g.sub p hp)) (fun p hp => ?_) R.nd⟩
  exact g.all p (by rw [List.take_length]; exact hp)
/-- set(xs), xs a list of ints -/
def rSetI (K : PySem.W.Frag) (w : World) : List V → Hp → VK → Prop := fun xs H Q => ∃ (l : Addr) (ns : List Int), xs = [V.ref l] ∧ SqL K H l (ns.map V.int) ∧ ns.length ≤ 1000 ∧
  ∀ a c, H a = none → c ≤ ns.length → Q (.ref a) (upd H a (SetO w a (fun j => decide (j ∈ ns)) c))
theorem cr_setI (hc : X.calm = true) : CallR X (.type "set") (rSetI X.K X.w) := by
  intro pins s σ H xs us Q I r h
  obtain ⟨l, ns, rfl, hl, hf, q⟩ := h
  rw [Vals.ref1 r]
  obtain ⟨its, rv, pl, hz⟩ := I.list hl
  have hn : H s.heap.objs.size = none := I.hok.fresh (Nat.le_refl _)
  refine set_of_ints (P := X.prog) (w := X.w) ns (I.ok.hd hc) pl.isList (by simpa using ints_of_vals rv) (by unfold scanBound; omega) fun h' tk c R hc' k => ?_
  exact ⟨.ref s.heap.objs.size, upd H s.heap.objs.size (SetO X.w s.heap.objs.size (fun j => decide (j ∈ ns)) c), I.laid (t' := tk) k (Nat.le_refl _) (setO_new R), rfl, q _ c hn hc'⟩
/-- sorted(s), s a set of flat tuples of one shape -/
def rSortedK (K : PySem.W.Frag) (P : Program) (w : World) : List V → Hp → VK → Prop := fun vs H Q => ∃ (a : Addr) (L : List (Addr × List Key)), vs = [V.ref a] ∧ H a = some (KSetO P w a L) ∧ (∀ p ∈ L, SqT K H p.1 (p.2.map kV)) ∧
  (∀ p ∈ L, ∀ q ∈ L, W.alike (encK p.2) (encK q.2) = true) ∧ (∀ p ∈ L, p.2 ≠ []) ∧
  ∀ (L' : List (Addr × List Key)) (p : Addr), L'.Perm L → (L'.map (·.2)).Nodup → L'.length ≤ 76 → L'.Pairwise (fun q r => W.dataLt (encK r.2) (encK q.2) = false) → H p = none → Q (.ref p) (upd H p (.lst (L'.map fun q => V.ref q.1)))
theorem cr_sortedK (hc : X.calm = true) (hu : X.A.units + 64 < cLine) : CallR X (.builtin "sorted") (rSortedK X.K X.prog X.w) := by
  intro pins s σ H vs us Q I r h
  obtain ⟨a, L, rfl, ha, hk, hal, hne, q⟩ := h
  have R0 : KSet0 X.prog X.w s.heap a L := (I.hok a _ ha).1
  obtain ⟨es, ep, t, R⟩ := kset0_full R0 fun p hp => inv_key I (hk p hp)
  rw [Vals.ref1 r]
  refine sorted_kset R (I.ok.hd hc) hu hal hne fun s' p out c L' k g o hp hg hout pm pw => ?_
  have hfew : L'.length ≤ 76 := by rw [pm.length_eq]; exact R.few
  have hlen : (L'.map fun q => V.ref q.1).length ≤ sizeLine := by rw [List.length_map, sizeLine_eq]; omega
  have hn : H p = none := I.hok.fresh hp
  have hv : Vals (L'.map fun q => V.ref q.1) out.toList := by rw [hout]; exact kVals L'
  have J : L2.Inv X pins σ (upd H p (.lst (L'.map fun q => V.ref q.1))) { s with heap := s'.heap, gens := s'.gens, drawn := s'.drawn, toks := s'.toks } :=
    I.call (ch := []) (Un.laid k hp hn) (I.hok.laid k hp ⟨hlen, out.toList, c, hv, hg⟩) (by rw [g]; exact I.bare) (fun _ z => nomatch z)
  have e : s' = { s with heap := s'.heap, gens := s'.gens, drawn := s'.drawn, toks := s'.toks } := by
    cases s'
    cases s
    cases o
    rfl
  rw [e]
  exact ⟨.ref p, _, J, rfl, q L' p pm ((pm.map (·.2)).nodup_iff.mpr R.nd) hfew pw hn⟩

/-! ### repr -/
mutual
theorem noDict_dp {K : PySem.W.Frag} {H : Hp} : ∀ (d : PyData) (v : V), Dp K H v d → d.hasDict = false
  | .none, _, _ => by simp [PyData.hasDict]
  | .bool _, _, _ => by simp [PyData.hasDict]
  | .int _, _, _ => by simp [PyData.hasDict]
  | .str _, _, _ => by simp [PyData.hasDict]
  | .list ds, _, h => by
    cases h with
    | lst _ ha => rw [PyData.hasDict]; exact noDict_all ds _ ha
  | .tuple ds, _, h => by
    cases h with
    | tup _ ha => rw [PyData.hasDict]; exact noDict_all ds _ ha
  | .dict _, _, h => by cases h
theorem noDict_all {K : PySem.W.Frag} {H : Hp} : ∀ (ds : List PyData) (vs : List V), DpAll K H vs ds → PyData.hasDictAll ds = false
  | [], _, _ => by simp [PyData.hasDictAll]
  | d :: ds, _, h => by
    cases h with
    | cons h1 h2 => rw [PyData.hasDictAll, noDict_dp d _ h1, noDict_all ds _ h2]; rfl
end
/-- repr(x), x a list or tuple of data -/
def rRepr (K : PySem.W.Frag) : List V → Hp → VK → Prop := fun xs H Q => ∃ (a : Addr) (d : PyData), xs = [.ref a] ∧ Dp K H (.ref a) d ∧ d.showable = true ∧ d.depth ≤ 60 ∧ d.shown.length ≤ sizeLine ∧ Q (.str d.shown) H
theorem cr_repr (hg : X.A.guards = some []) (hu : X.A.units + 64 < cLine) : CallR X (.builtin "repr") (rRepr X.K) := by
  intro pins s σ H xs us Q I r h
  obtain ⟨a, d, rfl, hd, hs, hdp, hz, q⟩ := h
  rw [Vals.ref1 r]
  obtain ⟨as, rd⟩ := Dp.reads I d (.ref a) (.ref a) hd rfl
  exact repr_of_reads' rd hs (PyData.noDict_hsm (noDict_dp d _ hd)) hg (by omega) (fun _ _ e => e) (fun h' u tk k => ⟨.str d.shown, H, I.kept (t' := tk) k, ⟨u, rfl⟩, q⟩) hz
/-- a < b of data of one shape -/
def rLtD (K : PySem.W.Frag) : R2 := fun x y H Q => ∃ d e, Dp K H x d ∧ Dp K H y e ∧ W.alike d e = true ∧ d ≠ .none ∧ d.depth ≤ 60 ∧ Q (.bl (W.dataLt d e)) H
end
end KS

/-! What all laws share: calls of defs by their promise; the deck of numbers that is drawn from. -/
namespace LB
open PySem PySem.Spec PyProof.Rows L2 KS GL
/-- the def named x stands and keeps its promise -/
structure Has (P : Program) (w : World) (K : PySem.W.Frag) (mg : Str → Option Value) (base : Heap) (x : Str) (k : Nat) (ps : List Str) (sp : Sp) : Prop where
  ex : ∃ f fd, FnOk P w K mg base CX0 k f fd ps sp ∧ mg x = some (.ref f) ∧ PySem.W.keepIn K (.ref f) = true ∧ Binds K fd ps []
section
variable {X : Cx} {x y : Str} {k : Nat} {ps : List Str} {sp : Sp} {e : Expr} {es : List Expr} {t : TA} {p pos kpos : Pos} {te : TE}
theorem pe_has (h : Has X.prog X.w X.K X.mg X.base x k ps sp) (hr : Room k X.A) (hg : Gl X x) (ha : PA X (e :: es) t) (hdb : (x == ("__debug__" : Str)) = false := by decide)
    (he : starEach (e :: es) X.env = (false, eval e X.env) :: starEach es X.env := by rfl) (hpl : (backTo pos (starEach es X.env)).any (·.1) = false := by rfl) : PE X (.Call (.Name x p) (e :: es) [] pos) (tCall sp [] E0 t) := by
  obtain ⟨f, fd, F, hm, hk, hb⟩ := h.ex
  exact pe_call F hr hg hm hk hb .nil pass0 ha hdb he hpl
theorem pe_has0 (h : Has X.prog X.w X.K X.mg X.base x k ps sp) (hr : Room k X.A) (hg : Gl X x) (hdb : (x == ("__debug__" : Str)) = false := by decide) : PE X (.Call (.Name x p) [] [] pos) (tCall sp [] E0 tNil) := by
  obtain ⟨f, fd, F, hm, hk, hb⟩ := h.ex
  exact pe_call0 F hr hg hm hk hb .nil pass0 hdb
/-- .. by the name of its one parameter, too -/
structure HasKw (P : Program) (w : World) (K : PySem.W.Frag) (mg : Str → Option Value) (base : Heap) (x : Str) (k : Nat) (y : Str) (sp : Sp) : Prop where
  ex : ∃ f fd, FnOk P w K mg base CX0 k f fd [y] sp ∧ mg x = some (.ref f) ∧ PySem.W.keepIn K (.ref f) = true ∧ ∀ (s : Shared) (u : Value), BindsTo s fd ⟨[], [(y, u)]⟩ [(y, u)]
def tCallKw (sp : Sp) (te : TE) : TE := fun σ H Q => te σ H fun v H1 => sp [v] H1 Q E0
theorem pe_hasKw (h : HasKw X.prog X.w X.K X.mg X.base x k y sp) (hr : Room k X.A) (hg : Gl X x) (ha : PE X e te) (hdb : (x == ("__debug__" : Str)) = false := by decide)
    (hall : (backToKw pos (keywordEach [⟨some y, e, kpos⟩] X.env)).all (·.1.isSome) = true := by rfl) (hks : (backToKw pos (keywordEach [⟨some y, e, kpos⟩] X.env)).filterMap (·.1) = [y] := by rfl)
    (hpl : ((backTo pos (starEach [] X.env)).any (·.1) || (backToKw pos (keywordEach [⟨some y, e, kpos⟩] X.env)).any (·.1.isNone)) = false := by rfl) :
    PE X (.Call (.Name x p) [] [⟨some y, e, kpos⟩] pos) (tCallKw sp te) := by
  obtain ⟨f, fd, F, hm, hk, hb⟩ := h.ex
  refine ⟨fun pins s σ H Q I h => wpAny_Call_Name_kw (ld_glob I hg hm ?_ hdb)⟩
  refine PySem.W.callWith_KW0 (h₀ := X.base) I.ok.mod.kin hk hall ?_ hpl
  refine thn ((pk_cons ha pk_nil).run pos pins s σ H (fun vs H1 => sp vs H1 Q E0) I ?_) fun ws s2 ⟨zs, H2, I2, rz, q2⟩ => ⟨I2.kIn, ?_⟩
  · exact h
  · rw [hks]
    have hl : zs.length = 1 := F.len _ _ _ _ q2
    obtain ⟨v, rfl⟩ : ∃ v, zs = [v] := List.length_eq_one_iff.mp hl
    cases rz with
    | cons r1 r2 =>
      cases r2
      refine wpAny_call (codeAny_mono (F.run X.A X.stack s2 H2 ⟨[], [(y, _)]⟩ _ [v] Q E0 hr I2.env0 (hb s2 _) (.cons r1 .nil) q2) fun r s' hq => ?_)
      have z := end_fn pass0 I2 hq
      cases r with
      | error er => exact z
      | ok fl => cases fl <;> exact z
end
end LB

namespace LB
open PySem PySem.Spec PyProof.Rows L2 KS GL
/-- the built-ins by their names -/
structure Blt (mg : Str → Option Value) : Prop where
  b_int : mg "int" = none
  b_len : mg "len" = none
  b_list : mg "list" = none
  b_tuple : mg "tuple" = none
  b_dict : mg "dict" = none
  b_set : mg "set" = none
  b_sorted : mg "sorted" = none
  b_sum : mg "sum" = none
  b_repr : mg "repr" = none
  b_range : mg "range" = none
  b_max : mg "max" = none
  b_min : mg "min" = none

/-! ### the deck -/
theorem n_cm : ¬ (("cells" : Str) = "mixed") := by decide +kernel
theorem n_ct : ¬ (("cells" : Str) = "turn") := by decide +kernel
theorem n_mt : ¬ (("mixed" : Str) = "turn") := by decide +kernel
def deckL (c : Addr) (m t : Int) : List (Key × V) := [(Sum.inr "cells", .ref c), (Sum.inr "mixed", .int m), (Sum.inr "turn", .int t)]
theorem inr_ne {a b : Str} (h : ¬ a = b) : ¬ ((Sum.inr a : Key) = Sum.inr b) := fun e => h (Sum.inr.inj e)
theorem deck_cells (c : Addr) (m t : Int) : valV (deckL c m t) (Sum.inr "cells") = some (.ref c) := by simp [deckL, valV]
theorem deck_mixed (c : Addr) (m t : Int) : valV (deckL c m t) (Sum.inr "mixed") = some (.int m) := by
  unfold deckL valV
  rw [List.find?_cons_of_neg (by simpa using inr_ne n_cm), List.find?_cons_of_pos (by simp)]
  rfl
theorem deck_turn (c : Addr) (m t : Int) : valV (deckL c m t) (Sum.inr "turn") = some (.int t) := by
  unfold deckL valV
  rw [List.find?_cons_of_neg (by simpa using inr_ne n_ct), List.find?_cons_of_neg (by simpa using inr_ne n_mt), List.find?_cons_of_pos (by simp)]
  rfl
theorem deck_put (c : Addr) (m t u : Int) : putK (deckL c m t) (Sum.inr "turn") (.int u) = deckL c m u := by
  unfold putK deckL
  rw [if_pos (by simp)]
  simp [List.map, inr_ne n_ct, inr_ne n_mt]
structure Dk (H : Hp) (d c : Addr) (n : Nat) : Prop where
  ex : ∃ (ns : List Int) (m t : Int), H d = some (.dK (deckL c m t)) ∧ H c = some (.lst (ns.map V.int)) ∧ ns.length ≤ 63 ∧ 0 ≤ m ∧ m < 2 ^ 40 ∧ 0 ≤ t ∧ t ≤ n
/-- what is known (H0) stands, the deck aside -/
structure Bk (H0 H : Hp) (d c : Addr) (n : Nat) : Prop where
  same : Same H0 H
  hd : H0 d = none
  hc : H0 c = none
  dk : Dk H d c n
theorem Bk.mono {H0 H : Hp} {d c : Addr} {n m : Nat} (B : Bk H0 H d c n) (h : n ≤ m) : Bk H0 H d c m := by
  obtain ⟨⟨ns, x, t, a1, a2, a3, a4, a5, a6, a7⟩⟩ := B.dk
  exact ⟨B.same, B.hd, B.hc, ⟨ns, x, t, a1, a2, a3, a4, a5, a6, by omega⟩⟩
/-- a new object is not the deck -/
theorem Bk.newL {H0 H : Hp} {d c p : Addr} {n : Nat} (B : Bk H0 H d c n) (hp : H p = none) : p ≠ d ∧ p ≠ c ∧ H0 p = none := by
  obtain ⟨⟨ns, x, t, a1, a2, _⟩⟩ := B.dk
  exact ⟨(fun e => by rw [e, a1] at hp; cases hp), (fun e => by rw [e, a2] at hp; cases hp), B.same.free hp⟩
/-- a new object made: nothing more is known -/
theorem Bk.junk {H0 H : Hp} {d c p : Addr} {n : Nat} {o : HO} (B : Bk H0 H d c n) (hp : H0 p = none) (h1 : p ≠ d) (h2 : p ≠ c) : Bk H0 (upd H p o) d c n := by
  obtain ⟨⟨ns, x, t, a1, a2, a3⟩⟩ := B.dk
  refine ⟨fun b u e => ?_, B.hd, B.hc, ⟨ns, x, t, ?_, ?_, a3⟩⟩
  · rw [upd_ne (ne_of_none e hp)]
    exact B.same b u e
  · rw [upd_ne h1.symm]; exact a1
  · rw [upd_ne h2.symm]; exact a2
/-- a new object made, and known from then on -/
theorem Bk.keep {H0 H : Hp} {d c p : Addr} {n : Nat} {o : HO} (B : Bk H0 H d c n) (hp : H p = some o) (h1 : p ≠ d) (h2 : p ≠ c) : Bk (upd H0 p o) H d c n := by
  refine ⟨fun b u e => ?_, ?_, ?_, B.dk⟩
  · by_cases hb : b = p
    · subst hb
      rw [upd_same] at e
      rw [hp, e]
    · rw [upd_ne hb] at e
      exact B.same b u e
  · rw [upd_ne h1.symm]; exact B.hd
  · rw [upd_ne h2.symm]; exact B.hc
theorem same_upd {H : Hp} {p : Addr} {o : HO} (h : H p = none) : Same H (upd H p o) := fun b x e => by
  rw [upd_ne (ne_of_none e h)]
  exact e
theorem Bk.less {H0 H1 H : Hp} {d c : Addr} {n : Nat} (B : Bk H1 H d c n) (s : Same H0 H1) : Bk H0 H d c n := ⟨s.trans B.same, s.free B.hd, s.free B.hc, B.dk⟩

theorem shaped_ints (ns : List Int) : SeqAt.shaped (PyData.list (ns.map .int)) = true := by
  unfold SeqAt.shaped
  have h1 : ∀ l : List Int, PyData.canLayAll0 (l.map .int) = true := by
    intro l
    induction l with
    | nil => simp [PyData.canLayAll0]
    | cons x l ih => rw [List.map_cons, PyData.canLayAll0, ih]; simp [PyData.canLay0]
  have h2 : ∀ l : List Int, PyData.depthAll (l.map .int) = 0 := by
    intro l
    induction l with
    | nil => simp [PyData.depthAll]
    | cons x l ih => rw [List.map_cons, PyData.depthAll, ih]; simp [PyData.depth]
  rw [PyData.canLay0, h1, PyData.depth, h2]
  rfl
theorem dp_ints {K : PySem.W.Frag} {H : Hp} : ∀ ns : List Int, DpAll K H (ns.map V.int) (ns.map .int)
  | [] => .nil
  | n :: ns => .cons (.int n) (dp_ints ns)
theorem eqv_nil (ns : List Int) : PyData.eqv (PyData.list (ns.map .int)) (PyData.list []) = ns.isEmpty := by
  cases ns with
  | nil => simp [PyData.eqv, PyData.eqvAll]
  | cons x l => simp [PyData.eqv, PyData.eqvAll]
def spDraw : Sp := fun vs H Q _ => ∃ (H0 : Hp) (d c : Addr) (n : Nat) (many : Int), vs = [.ref d, .int many] ∧ Bk H0 H d c n ∧ 1 ≤ many ∧ many < 2 ^ 30 ∧ n < 2 ^ 40 ∧
  ∀ (k : Int) (H' : Hp), 0 ≤ k → k < many → Bk H0 H' d c (n + 1) → Q (.int k) H'
def spPick (K : PySem.W.Frag) : Sp := fun vs H Q _ => ∃ (H0 : Hp) (d c a : Addr) (n : Nat) (xs : List V), vs = [.ref d, .ref a] ∧ Bk H0 H d c n ∧ (SqL K H0 a xs ∨ SqT K H0 a xs) ∧ 1 ≤ xs.length ∧ xs.length < 2 ^ 30 ∧ n < 2 ^ 40 ∧
  ∀ (v : V) (H' : Hp), v ∈ xs → Bk H0 H' d c (n + 1) → Q v H'
def spDeck (K : PySem.W.Frag) : Sp := fun vs H Q _ => ∃ (a : Addr) (ns : List Int), vs = [.ref a] ∧ SqL K H a (ns.map V.int) ∧ ∀ (d c : Addr) (H' : Hp), Bk H H' d c 0 → Q (.ref d) H'
end LB

namespace K24
open PySem PySem.Spec PyProof.Rows L2 KS GL LB
def topS (i : Nat) : Stmt := PySem.Challenge.pw_loopsaid_k24_cycles_among_arrows.main.body.getD i (.Pass ⟨0, 0, 0, 0⟩)
abbrev sEndless : Stmt := topS 2
abbrev sHas : Stmt := topS 3
abbrev sDeck : Stmt := topS 5
abbrev sDraw : Stmt := topS 6
abbrev sPick : Stmt := topS 7
abbrev sFurther : Stmt := topS 8
abbrev sRound : Stmt := topS 9
abbrev sSpots : Stmt := topS 10
abbrev sOnward : Stmt := topS 11
abbrev sMixed : Stmt := topS 12
abbrev sSome : Stmt := topS 13
abbrev sLaw : Stmt := topS 14
section
variable {P : Program} {w : World} {K : PySem.W.Frag} {mg : Str → Option Value} {base : Heap}
theorem scDraw : FnScope ["_law_deck_here", "_law_many", "_law_turn", "_law_cell", "_law_mixed_here"] ["_law_deck_here", "_law_many"] (defScope sDraw) := ⟨rfl, rfl, rfl, by decide +kernel, rfl, by decide +kernel, by decide +kernel⟩
theorem ok_draw {f : Addr} {fd : FuncData} (F : Fun K "_law_draw" "_law_draw" sDraw f fd) (T : Blt mg) : FnOk P w K mg base CX0 1 f fd ["_law_deck_here", "_law_many"] spDraw := by
  refine F.ok scDraw (fun vs H Q E h => ?_) (fun cdv A outer s H vs Q E hr h => ?_)
  · obtain ⟨_, _, _, _, _, rfl, _⟩ := h
    rfl
  · obtain ⟨H0, d, c, n, many, rfl, B, hm1, hm2, hn, q⟩ := h
    have hu := hu_of hr
    have hu64 := hr.units
    obtain ⟨⟨ns, m, t, h1, h2, hl, m0, m1, t0, t1⟩⟩ := B.dk
    refine ⟨_, (pss_cons (ps_par (i := 2) (j := 3) rfl scDraw.nd rfl rfl (by decide) rfl rfl (pa_cons (pe_op op_add (pe_dget hu (pv 0) pe_str (fun _ _ => rfl)) pe_int) (pa_cons (pe_dget hu (pv 0) pe_str (fun _ _ => rfl)) pa_nil)) (by rfl))
  (pss_cons (ps_dput hu (pv 0) pe_str (pv 2) rfl)
  (pss_cons (ps_if (pt_cmpR (op_neD hu64) (pe_dget hu (pv 0) pe_str (fun _ _ => rfl)) (pe_lst pa_nil) (nomark _))
    (pss_cons (ps_set (i := 3) scDraw.nd rfl (Or.inl rfl) (pe_callTy call_int1 (by rfl) T.b_int (by decide +kernel) (pa_cons (pe_bm0 PySem.F.plainAttrs_list PySem.F.slot_list_pop PySem.F.type_list_pop mt_pop (pe_dget hu (pv 0) pe_str (fun _ _ => rfl))) pa_nil)))
  (pss_cons (ps_if (pt_cmpR op_ge (pv 3) (pe_op op_pow pe_int pe_int) (nomark _))
    (pss_cons (ps_expr (pe_bm PySem.F.plainAttrs_list PySem.F.slot_list_append PySem.F.type_list_append mt_append (pe_dget hu (pv 0) pe_str (fun _ _ => rfl)) (pa_cons (pe_op op_fdiv (pv 3) (pv 1)) pa_nil)))
  (pss_one (ps_ret (pe_op op_mod (pv 3) (pv 1)))))
    pss_nil)
  (pss_one (ps_set (i := 3) scDraw.nd rfl (Or.inl rfl) (pe_op op_add (pv 3) (pe_dget hu (pv 0) pe_str (fun _ _ => rfl)))))))
    pss_nil)
  (pss_cons (ps_set (i := 4) scDraw.nd rfl (Or.inl rfl) (pe_op op_mod (pe_op op_mul (pe_op op_add (pe_op op_mod (pv 3) pe_int) (pe_op op_mul (pe_op op_mul pe_int (pv 2)) (pv 2))) pe_int) pe_int))
  (pss_cons (ps_set (i := 4) scDraw.nd rfl (Or.inl rfl) (pe_op op_mod (pe_op op_add (pe_op op_add (pe_op op_mul (pv 4) (pv 4)) (pe_op op_mul pe_int (pv 2))) pe_int) pe_int))
  (pss_one (ps_ret (pe_op op_mod (pe_op op_fdiv (pe_op op_mod (pe_op op_mul (pv 4) pe_int) pe_int) pe_int) (pv 1))))))))), ?_⟩
    have gT : ∀ {H : Hp} {m t : Int}, H d = some (.dK (deckL c m t)) → DGet H d (.str "turn") (some (.int t)) := fun {H m t} e => by
      have z := DGet.k (k := Sum.inr "turn") e
      rw [deck_turn] at z
      exact z
    have gM : ∀ {H : Hp} {m t : Int}, H d = some (.dK (deckL c m t)) → DGet H d (.str "mixed") (some (.int m)) := fun {H m t} e => by
      have z := DGet.k (k := Sum.inr "mixed") e
      rw [deck_mixed] at z
      exact z
    have gC : ∀ {H : Hp} {m t : Int}, H d = some (.dK (deckL c m t)) → DGet H d (.str "cells") (some (.ref c)) := fun {H m t} e => by
      have z := DGet.k (k := Sum.inr "cells") e
      rw [deck_cells] at z
      exact z
    have hdc : d ≠ c := ne_of h1 h2 (fun z => by cases z)
    refine ⟨.ref d, rfl, d, .int t, rfl, gT h1, t, 1, rfl, rfl, .ref d, rfl, d, .int m, rfl, gM h1, _, _, rfl, ?_⟩
    refine ⟨.int (t + 1), rfl, .ref d, rfl, d, _, rfl, DPut.k (k := Sum.inr "turn") h1 (show 3 < sizeLine by decide), ?_⟩
    rw [deck_put]
    have g1 : (upd H d (.dK (deckL c m (t + 1)))) d = some (.dK (deckL c m (t + 1))) := upd_same
    have g2 : (upd H d (.dK (deckL c m (t + 1)))) c = some (.lst (ns.map V.int)) := by rw [upd_ne hdc.symm]; exact h2
    have B1 : Bk H0 (upd H d (.dK (deckL c m (t + 1)))) d c (n + 1) := ⟨fun b u e => by
      rw [upd_ne (ne_of_none e B.hd)]
      exact B.same b u e, B.hd, B.hc, ⟨ns, m, t + 1, g1, g2, hl, m0, m1, by omega, by omega⟩⟩
    refine ⟨.ref d, rfl, d, .ref c, rfl, gC g1, Nat.zero_le _, fun e he => ?_⟩
    obtain ⟨e1, e2, e3⟩ := B1.newL he
    have B2 := B1.junk (o := .lst []) e3 e1 e2
    generalize hH2 : upd (upd H d (.dK (deckL c m (t + 1)))) e (.lst []) = H2 at B2 ⊢
    have k1 : H2 d = some (.dK (deckL c m (t + 1))) := by rw [← hH2, upd_ne e1.symm]; exact g1
    have k2 : H2 c = some (.lst (ns.map V.int)) := by rw [← hH2, upd_ne e2.symm]; exact g2
    have k3 : H2 e = some (.lst []) := by rw [← hH2, upd_same]
    -- the end of both ways
    have fin : ∀ (x : Int) (y : Option V) (H3 : Hp), Bk H0 H3 d c (n + 1) → tSeq (tAsg (tOp (rI (fun _ j => 0 < j) fun i j => .int (i % j)) (tOp (rI CMul fun i j => .int (i * j)) (tOp (rI0 fun i j => .int (i + j)) (tOp (rI (fun _ j => 0 < j) fun i j => .int (i % j)) (tVar 3) (tC (.int 2147483629))) (tOp (rI CMul fun i j => .int (i * j)) (tOp (rI CMul fun i j => .int (i * j)) (tC (.int 60631)) (tVar 2)) (tVar 2))) (tC (.int 40692))) (tC (.int 2147483647))) (gName 4))
        (tSeq (tAsg (tOp (rI (fun _ j => 0 < j) fun i j => .int (i % j)) (tOp (rI0 fun i j => .int (i + j)) (tOp (rI0 fun i j => .int (i + j)) (tOp (rI CMul fun i j => .int (i * j)) (tVar 4) (tVar 4)) (tOp (rI CMul fun i j => .int (i * j)) (tC (.int 69621)) (tVar 2))) (tC (.int 61))) (tC (.int 2147483579))) (gName 4))
          (tRet (tOp (rI (fun _ j => 0 < j) fun i j => .int (i % j)) (tOp (rI CDiv fun i j => .int (i / j)) (tOp (rI (fun _ j => 0 < j) fun i j => .int (i % j)) (tOp (rI CMul fun i j => .int (i * j)) (tVar 4) (tC (.int 39373))) (tC (.int 2147483549))) (tC (.int 64))) (tVar 1))))
        { nx := fun _ H' => Q .non H', rt := Q } [some (.ref d), some (.int many), some (.int (t + 1)), some (.int x), y] H3 := fun x y H3 B3 => by
      have b1 := Int.emod_nonneg x (show (2147483629 : Int) ≠ 0 by decide)
      have b2 := Int.emod_lt_of_pos x (show (0 : Int) < 2147483629 by decide)
      refine ⟨.int x, rfl, x, 2147483629, rfl, rfl, (by show (0 : Int) < 2147483629; decide), .int (t + 1), rfl, 60631, t + 1, rfl, rfl, .inl ⟨by decide, by decide⟩, .int (t + 1), rfl, _, t + 1, rfl, rfl, .inr ⟨by omega, by omega⟩, _, _, rfl, rfl, _, 40692, rfl, rfl, .inr ⟨by decide, by decide⟩, _, 2147483647, rfl, rfl, (by show (0 : Int) < 2147483647; decide), ?_⟩
      dsimp only
      generalize hz : (x % 2147483629 + 60631 * (t + 1) * (t + 1)) * 40692 % 2147483647 = z
      have c1 : 0 ≤ z := by rw [← hz]; exact Int.emod_nonneg _ (by decide)
      have c2 : z < 2147483647 := by rw [← hz]; exact Int.emod_lt_of_pos _ (by decide)
      refine ⟨.int z, rfl, .int z, rfl, z, z, rfl, rfl, .inl ⟨by omega, by omega⟩, .int (t + 1), rfl, 69621, t + 1, rfl, rfl, .inl ⟨by decide, by decide⟩, _, _, rfl, rfl, _, 61, rfl, rfl, _, 2147483579, rfl, rfl, (by show (0 : Int) < 2147483579; decide), ?_⟩
      dsimp only
      generalize hy : (z * z + 69621 * (t + 1) + 61) % 2147483579 = v
      have d1 : 0 ≤ v := by rw [← hy]; exact Int.emod_nonneg _ (by decide)
      have d2 : v < 2147483579 := by rw [← hy]; exact Int.emod_lt_of_pos _ (by decide)
      refine ⟨.int v, rfl, v, 39373, rfl, rfl, .inr ⟨by decide, by decide⟩, _, 2147483549, rfl, rfl, (by show (0 : Int) < 2147483549; decide), _, 64, rfl, rfl, ⟨by decide, by decide⟩, .int many, rfl, _, many, rfl, rfl, (by show (0 : Int) < many; omega), ?_⟩
      exact q _ H3 (Int.emod_nonneg _ (by omega)) (Int.emod_lt_of_pos _ (by omega)) B3
    refine ⟨.list (ns.map .int), .list [], .lst (.inl (.inl k2)) (dp_ints ns), .lst (.inl (.inl k3)) .nil, shaped_ints ns, shaped_ints [], _, rfl, ?_⟩
    rw [eqv_nil]
    cases hns : ns with
    | nil => exact iteF (fin m none H2 B2)
    | cons n0 r0 =>
      refine iteT ?_
      have hne : ns ≠ [] := by rw [hns]; exact List.cons_ne_nil _ _
      -- cell = int(deck["cells"].pop())
      have hlast : (ns.map V.int)[(ns.map V.int).length - 1]? = some (.int (ns.getLast hne)) := by
        rw [← List.getLast?_eq_getElem?, List.getLast?_map, List.getLast?_eq_getLast hne]
        rfl
      refine ⟨.ref d, rfl, d, .ref c, rfl, gC k1, .inl ⟨rfl, _, .inl (.inl k2)⟩, c, _, .int (ns.getLast hne), rfl, rfl, k2, hlast, .inl ⟨_, rfl, ?_⟩⟩
      generalize ns.getLast hne = x
      have hdl : (ns.map V.int).dropLast = (ns.dropLast).map V.int := by rw [List.map_dropLast]
      rw [hdl]
      have B3 : Bk H0 (upd H2 c (.lst (ns.dropLast.map V.int))) d c (n + 1) := ⟨fun b u e => by
        rw [upd_ne (ne_of_none e B.hc)]
        exact B2.same b u e, B.hd, B.hc, ⟨ns.dropLast, m, t + 1, by rw [upd_ne hdc]; exact k1, upd_same, by rw [List.length_dropLast]; omega, m0, m1, by omega, by omega⟩⟩
      have l1 : (upd H2 c (.lst (ns.dropLast.map V.int))) d = some (.dK (deckL c m (t + 1))) := by rw [upd_ne hdc]; exact k1
      have l2 : (upd H2 c (.lst (ns.dropLast.map V.int))) c = some (.lst (ns.dropLast.map V.int)) := upd_same
      generalize upd H2 c (.lst (ns.dropLast.map V.int)) = H3 at B3 l1 l2 ⊢
      refine ⟨.int x, rfl, 10, 18, rfl, rfl, ⟨by decide, by decide, by decide⟩, _, _, rfl, rfl, _, rfl, ite2 (fun _ => ?_) (fun _ => ?_)⟩
      · -- a digit of a great number
        refine ⟨.ref d, rfl, d, .ref c, rfl, gC l1, .inl ⟨rfl, _, .inl (.inl l2)⟩, .int x, rfl, .int many, rfl, x, many, rfl, rfl, ⟨by omega, by omega⟩, c, _, _, rfl, rfl, l2, ?_, ?_⟩
        · rw [List.length_map, List.length_dropLast]
          exact small1000 (by omega)
        · have e4 : ns.dropLast.map V.int ++ [.int (x / many)] = (ns.dropLast ++ [x / many]).map V.int := by rw [List.map_append]; rfl
          rw [e4]
          have hpos : 0 < ns.length := List.length_pos_iff.mpr hne
          have B4 : Bk H0 (upd H3 c (.lst ((ns.dropLast ++ [x / many]).map V.int))) d c (n + 1) := ⟨fun b u e => by
            rw [upd_ne (ne_of_none e B.hc)]
            exact B3.same b u e, B.hd, B.hc, ⟨ns.dropLast ++ [x / many], m, t + 1, by rw [upd_ne hdc]; exact l1, upd_same, by rw [List.length_append, List.length_dropLast]; simp; omega, m0, m1, by omega, by omega⟩⟩
          refine ⟨.int x, rfl, .int many, rfl, x, many, rfl, rfl, (by show (0 : Int) < many; omega), ?_⟩
          exact q _ _ (Int.emod_nonneg _ (by omega)) (Int.emod_lt_of_pos _ (by omega)) B4
      · refine ⟨.int x, rfl, .ref d, rfl, d, .int m, rfl, gM l1, x, m, rfl, rfl, ?_⟩
        exact fin (x + m) none H3 B3
theorem scPick : FnScope ["_law_deck_here", "_law_some_here"] ["_law_deck_here", "_law_some_here"] (defScope sPick) := ⟨rfl, rfl, rfl, by decide +kernel, rfl, by decide +kernel, by decide +kernel⟩
theorem ok_pick {f : Addr} {fd : FuncData} (F : Fun K "_law_pick" "_law_pick" sPick f fd) (T : Blt mg) (h_law_draw : Has P w K mg base "_law_draw" 1 ["_law_deck_here", "_law_many"] spDraw) : FnOk P w K mg base CX0 2 f fd ["_law_deck_here", "_law_some_here"] (spPick K) := by
  refine F.ok scPick (fun vs H Q E h => ?_) (fun cdv A outer s H vs Q E hr h => ?_)
  · obtain ⟨_, _, _, _, _, _, rfl, _⟩ := h
    rfl
  · obtain ⟨H0, d, c, a, n, xs, rfl, B, hx, x1, x2, hn, q⟩ := h
    refine ⟨_, (pss_one (ps_ret (pe_ix ix_seq (pv 1) (pe_has h_law_draw (hr.mono (by decide)) rfl (pa_cons (pv 0) (pa_cons (pe_callB call_len (by rfl) T.b_len PySem.boot_len (pa_cons (pv 1) pa_nil)) pa_nil))) (fun _ _ => rfl)))), ?_⟩
    have hx' : ∀ {H' : Hp}, Same H0 H' → SqL K H' a xs ∨ SqT K H' a xs := fun {H'} sm => hx.imp (fun z => sm.seq z) (fun z => by
      rcases z with (z | ⟨o, z⟩) | z
      · exact .inl (.inl (sm _ _ z))
      · exact .inl (.inr ⟨o, sm _ _ z⟩)
      · exact .inr z)
    have hlen : LenV K (.ref a) H xs.length := (hx' B.same).imp (fun z => ⟨xs, z, rfl⟩) (fun z => ⟨xs, z, rfl⟩)
    refine ⟨.ref a, rfl, .ref d, rfl, .ref a, rfl, .ref a, xs.length, rfl, hlen, H0, d, c, n, xs.length, rfl, B, by omega, by omega, hn, fun k H' k0 k1 B' => ?_⟩
    obtain ⟨j, rfl⟩ : ∃ j : Nat, k = (j : Int) := ⟨k.toNat, by omega⟩
    have hj : j < xs.length := by omega
    have ha : atI xs (j : Int) = some xs[j] := atI_nat (List.getElem?_eq_getElem hj)
    rcases hx' B'.same with z | z
    · exact .inl ⟨a, xs, j, xs[j], rfl, rfl, z, ha, q _ H' (List.getElem_mem hj) B'⟩
    · exact .inr (.inl ⟨a, xs, j, xs[j], rfl, rfl, z, ha, q _ H' (List.getElem_mem hj) B'⟩)
theorem cut63 (ns : List Int) : ∃ ms : List Int, cutV (ns.map V.int) none (some 63) = ms.map V.int ∧ ms.length ≤ 63 := by
  refine ⟨(ns.drop (HT.sIx ns.length 0 none)).take (HT.sIx ns.length ns.length (some 63) - HT.sIx ns.length 0 none), ?_, ?_⟩
  · unfold cutV
    rw [List.length_map, List.map_take, List.map_drop]
  · rw [List.length_take, List.length_drop, show HT.sIx ns.length ns.length (some 63) = min 63 ns.length from HT.sIx_nat ns.length ns.length 63]
    omega
theorem deck_made (c : Addr) (m : Int) : mergeK [] [((Sum.inr "cells" : Key), V.ref c), (Sum.inr "mixed", .int m), (Sum.inr "turn", .int 0)] = deckL c m 0 := by
  unfold mergeK deckL
  have h1 := n_cm
  have h2 := n_ct
  have h3 := n_mt
  simp [putK, List.foldl, h1, h2, h3]
theorem scDeck : FnScope ["_law_script", "_law_mixed_here", "_law_cell"] ["_law_script"] (defScope sDeck) := ⟨rfl, rfl, rfl, by decide +kernel, rfl, by decide +kernel, by decide +kernel⟩
theorem ok_deck {f : Addr} {fd : FuncData} (F : Fun K "_law_deck" "_law_deck" sDeck f fd) (T : Blt mg) : FnOk P w K mg base CX0 1 f fd ["_law_script"] (spDeck K) := by
  refine F.ok scDeck (fun vs H Q E h => ?_) (fun cdv A outer s H vs Q E hr h => ?_)
  · obtain ⟨_, _, rfl, _⟩ := h
    rfl
  · obtain ⟨a, ns, rfl, hS, q⟩ := h
    refine ⟨_, (pss_cons (ps_set (i := 1) scDeck.nd rfl (Or.inl rfl) pe_int)
  (pss_cons (ps_for PassesOwn.never rfl (pi_list (pe_slice sl_list (pv 0) po_none (po_some pe_int))) (pg_name (i := 2) scDeck.nd rfl (Or.inl rfl))
    (pss_one (ps_set (i := 1) scDeck.nd rfl (Or.inl rfl) (pe_op op_mod (pe_op op_add (pe_op op_add (pe_op op_mul (pv 1) pe_int) (pe_op op_mod (pe_callTy call_int1 (by rfl) T.b_int (by decide +kernel) (pa_cons (pv 2) pa_nil)) pe_int)) pe_int) pe_int))))
  (pss_one (ps_ret (pe_disp (pps_cons pe_str (pe_revL (pe_callTy call_list_of (by rfl) T.b_list (by decide +kernel) (pa_cons (pe_slice sl_list (pv 0) po_none (po_some pe_int)) pa_nil))) (pps_cons pe_str (pv 1) (pps_cons pe_str pe_int pps_nil))) (by rfl) (by rfl) (fun z => by cases z) (by decide)))))), ?_⟩
    obtain ⟨ms, em, lm⟩ := cut63 ns
    refine ⟨.ref a, rfl, 63, rfl, a, _, rfl, hS, fun p hp => ?_⟩
    rw [em]
    refine ⟨p, rfl, ⟨_, .inl (.inl upd_same)⟩, ?_⟩
    refine for_list (K := K) (a := p) (xs := ms.map V.int) (fun i σ H1 => ∃ (m : Int) (y : Option V), σ = [some (.ref a), some (.int m), y] ∧ 0 ≤ m ∧ m < 2 ^ 40 ∧ H1 = upd H p (.lst (ms.map V.int))) ⟨989724, none, rfl, by decide, by decide, rfl⟩ (fun i σ H1 _ ⟨_, _, _, _, _, e⟩ => by rw [e]; exact .inl (.inl upd_same)) ?_ ?_
    · rintro i x σ H1 hi ⟨m, y, rfl, m0, m1, rfl⟩
      obtain ⟨z, rfl⟩ : ∃ z, x = V.int z := by
        rw [List.getElem?_map] at hi
        cases e : ms[i]? with
        | none => rw [e] at hi; cases hi
        | some z => rw [e] at hi; exact ⟨z, (Option.some.inj hi).symm⟩
      refine ⟨.int m, rfl, m, 48271, rfl, rfl, .inr ⟨by decide, by decide⟩, .int z, rfl, .inl ⟨z, rfl, z, 2147483629, rfl, rfl, (by show (0 : Int) < 2147483629; decide), _, _, rfl, rfl, _, 61, rfl, rfl, _, 2147483587, rfl, rfl, (by show (0 : Int) < 2147483587; decide), ?_⟩⟩
      exact ⟨_, _, rfl, Int.emod_nonneg _ (by decide), Int.lt_trans (Int.emod_lt_of_pos _ (by decide)) (by decide), rfl⟩
    · rintro σ H1 ⟨m, y, rfl, m0, m1, rfl⟩
      intro d hd
      have dp : d ≠ p := fun e => by rw [e, upd_same] at hd; cases hd
      have S1 : Same H (upd H p (.lst (ms.map V.int))) := same_upd hp
      have hd0 : H d = none := S1.free hd
      have S2 := S1.trans (same_upd (o := .dK []) hd)
      refine ⟨.ref a, rfl, 63, rfl, a, _, rfl, S2.seq hS, fun p2 hp2 => ?_⟩
      rw [em]
      have S3 := S2.trans (same_upd (o := .lst (ms.map V.int)) hp2)
      refine ⟨p2, _, rfl, .inl (.inl (.inl upd_same)), fun p3 hp3 => ?_⟩
      have S4 := S3.trans (same_upd (o := .lst (ms.map V.int)) hp3)
      refine ⟨p3, _, rfl, .inl (.inl upd_same), fun c hc => ?_⟩
      have S5 := S4.trans (same_upd (o := .lst (ms.map V.int).reverse) hc)
      have ne : ∀ {H : Hp} {x y : Addr} {o : HO}, (upd H x o) y = none → x ≠ y := fun {H x y o} h e => by rw [e, upd_same] at h; cases h
      have d2 : p2 ≠ d := (ne hp2).symm
      have nd3 : d ≠ p3 := fun e => by
        rw [← e, upd_ne d2.symm, upd_same] at hp3
        cases hp3
      have nd4 : d ≠ c := fun e => by
        rw [← e, upd_ne nd3, upd_ne d2.symm, upd_same] at hc
        cases hc
      refine ⟨.int m, rfl, ?_, [(Sum.inr "cells", .ref c), (Sum.inr "mixed", .int m), (Sum.inr "turn", .int 0)], rfl, (show 3 ≤ 15 by decide), ?_⟩
      · rw [upd_ne nd4, upd_ne nd3, upd_ne d2.symm, upd_same]
      · rw [deck_made]
        have hcf : H c = none := S4.free hc
        refine q d c _ ⟨fun b u e => ?_, hd0, hcf, ⟨ms.reverse, m, 0, upd_same, ?_, by rw [List.length_reverse]; exact lm, m0, m1, Int.le_refl _, Int.le_refl _⟩⟩
        · rw [upd_ne (ne_of_none e hd0)]
          exact S5 b u e
        · rw [upd_ne nd4.symm, upd_same, List.map_reverse]
end
end K24

namespace K24
open PySem PySem.Spec PyProof.Rows L2 KS GL LB
theorem p100 : (10 : Int) ^ (20 : Int).toNat = 100000000000000000000 := by decide
/-- a row: source, label, target -/
abbrev Row := Int × Str × Int
def rowV (r : Row) : List V := [.int r.1, .str r.2.1, .int r.2.2]
def RowsAt (K : PySem.W.Frag) (H : Hp) (rs : List (Addr × Row)) : Prop := ∀ p ∈ rs, SqT K H p.1 (rowV p.2)
theorem sameT {K : PySem.W.Frag} {H H' : Hp} {a : Addr} {xs : List V} (e : Same H H') (h : SqT K H a xs) : SqT K H' a xs := by
  rcases h with (h | ⟨o, h⟩) | h
  · exact .inl (.inl (e _ _ h))
  · exact .inl (.inr ⟨o, e _ _ h⟩)
  · exact .inr h
theorem RowsAt.mono {K : PySem.W.Frag} {H H' : Hp} {rs : List (Addr × Row)} (h : RowsAt K H rs) (e : Same H H') : RowsAt K H' rs := fun p hp => sameT e (h p hp)
/-- numbers and labels of bounded size -/
def Small (x : Int) : Prop := -(2 ^ 80) ≤ x ∧ x ≤ 2 ^ 80
/-- of bounded size, and -1 or one of M -/
def InM (M : List Int) (x : Int) : Prop := Small x ∧ (x = -1 ∨ x ∈ M)
def Lbl (r : Row) : Prop := r.2.1.length ≤ 8 ∧ PyData.strOk r.2.1 = true
def Good (M : List Int) (r : Row) : Prop := InM M r.1 ∧ Lbl r ∧ InM M r.2.2
section
variable {P : Program} {w : World} {K : PySem.W.Frag} {mg : Str → Option Value} {base : Heap}
def spSpots : Sp := fun vs H Q _ => ∃ (H0 : Hp) (d c : Addr) (n size : Nat), vs = [.ref d, .int size] ∧ Bk H0 H d c n ∧ size ≤ 30 ∧ n < 2 ^ 30 ∧
  ∀ (p : Addr) (xs : List Int) (H' : Hp), xs.length = size → (∀ x ∈ xs, Small x) → p ≠ d → p ≠ c → H0 p = none → H' p = some (.lst (xs.map V.int)) → Bk H0 H' d c (n + 60) → Q (.ref p) H'
theorem scSpots : FnScope ["_law_deck_here", "_law_size", "_law_found", "_law_k", "_law_spot"] ["_law_deck_here", "_law_size"] (defScope sSpots) := ⟨rfl, rfl, rfl, by decide +kernel, rfl, by decide +kernel, by decide +kernel⟩
theorem ok_spots {f : Addr} {fd : FuncData} (F : Fun K "_law_spots" "_law_spots" sSpots f fd) (T : Blt mg) (h_law_draw : Has P w K mg base "_law_draw" 1 ["_law_deck_here", "_law_many"] spDraw)
    (h_law_pick : Has P w K mg base "_law_pick" 2 ["_law_deck_here", "_law_some_here"] (spPick K)) : FnOk P w K mg base CX0 3 f fd ["_law_deck_here", "_law_size"] spSpots := by
  refine F.ok scSpots (fun vs H Q E h => ?_) (fun cdv A outer s H vs Q E hr h => ?_)
  · obtain ⟨_, _, _, _, _, rfl, _⟩ := h
    rfl
  · obtain ⟨H0, d, c, n, size, rfl, B, hsz, hn, q⟩ := h
    refine ⟨_, (pss_cons (ps_set (i := 2) scSpots.nd rfl (Or.inl rfl) (pe_lst pa_nil))
  (pss_cons (ps_for PassesOwn.never rfl (pi_range1 (by rfl) T.b_range (pa_cons (pv 1) pa_nil)) (pg_name (i := 3) scSpots.nd rfl (Or.inl rfl))
    (pss_cons (ps_set (i := 4) scSpots.nd rfl (Or.inl rfl) (pe_has h_law_pick (hr.mono (by decide)) rfl (pa_cons (pv 0) (pa_cons (pe_lst (pa_cons (pv 3) (pa_cons (pv 3) (pa_cons (pe_op op_add pe_int (pv 3)) (pa_cons (pe_op op_add (pe_op op_pow pe_int pe_int) (pe_op op_mul pe_int (pv 3))) pa_nil))))) pa_nil))))
  (pss_one (ps_expr (pe_bm PySem.F.plainAttrs_list PySem.F.slot_list_insert PySem.F.type_list_insert mt_insert (pv 2) (pa_cons (pe_has h_law_draw (hr.mono (by decide)) rfl (pa_cons (pv 0) (pa_cons (pe_op op_add (pe_callB call_len_seq (by rfl) T.b_len PySem.boot_len (pa_cons (pv 2) pa_nil)) pe_int) pa_nil))) (pa_cons (pv 4) pa_nil)))))))
  (pss_one (ps_ret (pv 2))))), ?_⟩
    refine ⟨Nat.zero_le _, fun p hp => ?_⟩
    obtain ⟨p1, p2, p3⟩ := B.newL hp
    refine ⟨.int size, rfl, size, rfl, by omega, by omega, for_range (lo := 0) (n := (size : Int).toNat) (fun i σ H1 => ∃ (xs : List Int) (y z : Option V), σ = [some (.ref d), some (.int size), some (.ref p), y, z] ∧ xs.length = i ∧ (∀ x ∈ xs, Small x) ∧ H1 p = some (.lst (xs.map V.int)) ∧ Bk H0 H1 d c (n + 2 * i))
      ⟨[], none, none, rfl, rfl, (fun _ h => nomatch h), upd_same, B.junk p3 p1 p2⟩ ?_ ?_⟩
    · rintro i σ H1 hi ⟨xs, y, z, rfl, hl, hx, e1, B1⟩
      have hi30 : i < 30 := by omega
      have B2 := B1.keep e1 p1 p2
      -- the four
      have p20 : CPow 10 20 := ⟨by decide, by decide, by decide⟩
      refine ⟨.ref d, rfl, .int (0 + i), rfl, .int (0 + i), rfl, .int (0 + i), rfl, 100, _, rfl, rfl, 10, 20, rfl, rfl, p20, .int (0 + i), rfl, 7, _, rfl, rfl, .inl ⟨by decide, by decide⟩, _, _, rfl, rfl, (show 4 ≤ sizeLine by decide), fun l hl' => ?_⟩
      obtain ⟨l1, l2, l3⟩ := B2.newL hl'
      have B3 := (B2.junk (o := .lst [.int (0 + i), .int (0 + i), .int (100 + (0 + i)), .int ((10 : Int) ^ (20 : Int).toNat + 7 * (0 + i))]) l3 l1 l2).keep upd_same l1 l2
      refine ⟨_, d, c, l, n + 2 * i, _, rfl, B3, .inl (.inl (.inl upd_same)), (show 1 ≤ 4 by decide), (show 4 < 2 ^ 30 by decide), by omega, fun v H2 hv B4 => ?_⟩
      have lp : p ≠ l := fun e => by rw [← e, upd_same] at l3; cases l3
      have e2 : H2 p = some (.lst (xs.map V.int)) := B4.same p _ (by rw [upd_ne lp, upd_same])
      have B5 : Bk (upd H0 p (.lst (xs.map V.int))) H2 d c (n + 2 * i + 1) := B4.less (same_upd l3)
      obtain ⟨sv, rfl, hsv⟩ : ∃ sv : Int, v = .int sv ∧ Small sv := by
        rw [p100] at hv
        have a0 : (i : Int) < 30 := by omega
        have sm : ∀ x : Int, 0 ≤ x → x ≤ 2 ^ 80 → Small x := fun x h1 h2 => ⟨by omega, h2⟩
        rcases List.mem_cons.mp hv with rfl | hv
        · exact ⟨_, rfl, sm _ (by omega) (by omega)⟩
        rcases List.mem_cons.mp hv with rfl | hv
        · exact ⟨_, rfl, sm _ (by omega) (by omega)⟩
        rcases List.mem_cons.mp hv with rfl | hv
        · exact ⟨_, rfl, sm _ (by omega) (by omega)⟩
        · rw [List.mem_singleton.mp hv]
          exact ⟨_, rfl, sm _ (by omega) (by omega)⟩
      -- found.insert(draw(..), spot)
      have hz : xs.length < sizeLine := small1000 (by omega)
      refine ⟨.ref p, rfl, .inl ⟨rfl, _, .inl (.inl e2)⟩, .ref d, rfl, .ref p, rfl, p, _, rfl, .inl (.inl (.inl e2)), _, 1, rfl, rfl, _, d, c, _, _, rfl, B5, (by rw [List.length_map]; omega), (by rw [List.length_map]; omega), by omega, fun k H3 k0 k1 B6 => ?_⟩
      have e3 : H3 p = some (.lst (xs.map V.int)) := B6.same p _ upd_same
      have B7 := B6.less (same_upd p3)
      rw [List.length_map] at k1
      refine ⟨.int sv, rfl, p, _, k, .int sv, rfl, rfl, e3, (by rw [List.length_map]; exact hz), k0, by omega, ?_⟩
      refine ⟨xs.take k.toNat ++ [sv] ++ xs.drop k.toNat, _, _, rfl, ?_, ?_, ?_, ?_⟩
      · rw [List.length_append, List.length_append, List.length_take, List.length_drop]
        simp
        omega
      · intro x hx'
        rcases List.mem_append.mp hx' with h | h
        · rcases List.mem_append.mp h with h | h
          · exact hx x (List.mem_of_mem_take h)
          · rw [List.mem_singleton.mp h]; exact hsv
        · exact hx x (List.mem_of_mem_drop h)
      · rw [upd_same, List.map_append, List.map_append, List.map_take, List.map_drop]
        rfl
      · have B8 := B7.junk (o := .lst ((xs.map V.int).take k.toNat ++ [V.int sv] ++ (xs.map V.int).drop k.toNat)) p3 p1 p2
        exact B8.mono (by omega)
    · rintro σ H1 ⟨xs, y, z, rfl, hl, hx, e1, B1⟩
      exact ⟨.ref p, rfl, q p xs H1 (by omega) hx p1 p2 p3 e1 (B1.mono (by omega))⟩
theorem ints_at {xs : List Int} {j : Nat} (h : j < xs.length) : (xs.map V.int)[j]? = some (.int xs[j]) := by
  rw [List.getElem?_map, List.getElem?_eq_getElem h]
  rfl
def rowRefs (rs : List (Addr × Row)) : List V := rs.map fun q => V.ref q.1
/-- the deck, what is known, and rows in a list that is being made -/
def spOnward (K : PySem.W.Frag) : Sp := fun vs H Q _ => ∃ (H0 : Hp) (d c a : Addr) (n size : Nat) (xs : List Int), vs = [.ref d, .ref a, .int size] ∧ Bk H0 H d c n ∧ SqL K H0 a (xs.map V.int) ∧ 1 ≤ xs.length ∧ xs.length ≤ 30 ∧ (∀ x ∈ xs, Small x) ∧ size ≤ 40 ∧ n < 2 ^ 30 ∧
  ∀ (p : Addr) (rs : List (Addr × Row)) (H1 H' : Hp), rs.length = size → (∀ q ∈ rs, Good xs q.2) → p ≠ d → p ≠ c → Same H0 H1 → H1 p = none → H' p = some (.lst (rowRefs rs)) → RowsAt K H1 rs → Bk H1 H' d c (n + 120) → Q (.ref p) H'
theorem scOnward : FnScope ["_law_deck_here", "_law_spots_here", "_law_size", "_law_some_here", "_law_k", "_law_at", "_law_to"] ["_law_deck_here", "_law_spots_here", "_law_size"] (defScope sOnward) := ⟨rfl, rfl, rfl, by decide +kernel, rfl, by decide +kernel, by decide +kernel⟩
theorem ok_onward {f : Addr} {fd : FuncData} (F : Fun K "_law_onward" "_law_onward" sOnward f fd) (T : Blt mg) (h_law_draw : Has P w K mg base "_law_draw" 1 ["_law_deck_here", "_law_many"] spDraw)
    (h_law_pick : Has P w K mg base "_law_pick" 2 ["_law_deck_here", "_law_some_here"] (spPick K)) : FnOk P w K mg base CX0 3 f fd ["_law_deck_here", "_law_spots_here", "_law_size"] (spOnward K) := by
  refine F.ok scOnward (fun vs H Q E h => ?_) (fun cdv A outer s H vs Q E hr h => ?_)
  · obtain ⟨_, _, _, _, _, _, _, rfl, _⟩ := h
    rfl
  · obtain ⟨H0, d, c, a, n, size, xs, rfl, B, hS, hx1, hx2, hxs, hsz, hn, q⟩ := h
    refine ⟨_, (pss_cons (ps_set (i := 3) scOnward.nd rfl (Or.inl rfl) (pe_lst pa_nil))
  (pss_cons (ps_for PassesOwn.never rfl (pi_range1 (by rfl) T.b_range (pa_cons (pv 2) pa_nil)) (pg_name (i := 4) scOnward.nd rfl (Or.inl rfl))
    (pss_cons (ps_set (i := 5) scOnward.nd rfl (Or.inl rfl) (pe_has h_law_draw (hr.mono (by decide)) rfl (pa_cons (pv 0) (pa_cons (pe_callB call_len_seq (by rfl) T.b_len PySem.boot_len (pa_cons (pv 1) pa_nil)) pa_nil))))
  (pss_cons (ps_set (i := 6) scOnward.nd rfl (Or.inl rfl) (pe_op op_add (pe_op op_add (pv 5) pe_int) (pe_has h_law_draw (hr.mono (by decide)) rfl (pa_cons (pv 0) (pa_cons pe_int pa_nil)))))
  (pss_one (ps_expr (pe_bm PySem.F.plainAttrs_list PySem.F.slot_list_append PySem.F.type_list_append mt_append (pv 3) (pa_cons (pe_tup (pa_cons (pe_ix ix_list (pv 1) (pv 5) (fun _ _ => rfl)) (pa_cons (pe_has h_law_pick (hr.mono (by decide)) rfl (pa_cons (pv 0) (pa_cons (pe_lst (pa_cons pe_str (pa_cons pe_str (pa_cons pe_str pa_nil)))) pa_nil))) (pa_cons (pe_ifExp (pt_cmpR op_lt (pv 6) (pe_callB call_len_seq (by rfl) T.b_len PySem.boot_len (pa_cons (pv 1) pa_nil)) (nomark _)) (pe_ix ix_list (pv 1) (pv 6) (fun _ _ => rfl)) (pe_un un_neg pe_int)) pa_nil)))) pa_nil)))))))
  (pss_one (ps_ret (pv 3))))), ?_⟩
    refine ⟨Nat.zero_le _, fun p hp => ?_⟩
    obtain ⟨p1, p2, p3⟩ := B.newL hp
    refine ⟨.int size, rfl, size, rfl, by omega, by omega, for_range (lo := 0) (n := (size : Int).toNat) (fun i σ H1 => ∃ (H2 : Hp) (rs : List (Addr × Row)) (y4 y5 y6 : Option V), σ = [some (.ref d), some (.ref a), some (.int size), some (.ref p), y4, y5, y6] ∧ rs.length = i ∧ (∀ q ∈ rs, Good xs q.2) ∧ Same H0 H2 ∧ H2 p = none ∧
        H1 p = some (.lst (rowRefs rs)) ∧ RowsAt K H2 rs ∧ Bk H2 H1 d c (n + 3 * i))
      ⟨H0, [], none, none, none, rfl, rfl, (fun _ h => nomatch h), Same.refl _, p3, upd_same, (fun _ h => nomatch h), B.junk p3 p1 p2⟩ ?_ ?_⟩
    · rintro i σ H1 hi ⟨H2, rs, y4, y5, y6, rfl, hl, hg, s2, n2, e1, ra, B1⟩
      have hi40 : i < 40 := by omega
      have S1 : SqL K H1 a (xs.map V.int) := (s2.trans B1.same).seq hS
      refine ⟨.ref d, rfl, .ref a, rfl, a, _, rfl, .inl S1, _, d, c, n + 3 * i, _, rfl, B1.keep e1 p1 p2, (by rw [List.length_map]; omega), (by rw [List.length_map]; omega), by omega, fun k H3 k0 k1 B3 => ?_⟩
      rw [List.length_map] at k1
      refine ⟨.int k, rfl, _, 1, rfl, rfl, .ref d, rfl, _, d, c, _, 3, rfl, B3, by decide, by decide, by omega, fun k2 H4 k20 k21 B4 => ⟨_, _, rfl, rfl, ?_⟩⟩
      obtain ⟨j, rfl⟩ : ∃ j : Nat, k = (j : Int) := ⟨k.toNat, by omega⟩
      obtain ⟨g, hg'⟩ : ∃ g : Nat, (j : Int) + 1 + k2 = (g : Int) := ⟨((j : Int) + 1 + k2).toNat, by omega⟩
      have hj : j < xs.length := by omega
      have e4 : H4 p = some (.lst (rowRefs rs)) := B4.same p _ upd_same
      have S4 : ∀ {H' : Hp}, Same H2 H' → SqL K H' a (xs.map V.int) := fun sm => (s2.trans sm).seq hS
      have sm4 : Same H2 H4 := (same_upd n2).trans B4.same
      dsimp only
      rw [hg']
      -- the tuple
      refine ⟨.ref p, rfl, .inl ⟨rfl, _, .inl (.inl e4)⟩, .ref a, rfl, .int j, rfl, a, _, j, .int xs[j], rfl, rfl, S4 sm4, atI_nat (ints_at hj), .ref d, rfl, (show 3 ≤ sizeLine by decide), fun l hl' => ?_⟩
      obtain ⟨l1, l2, l3⟩ := B4.newL hl'
      have lp : p ≠ l := fun e => by rw [← e, upd_same] at l3; cases l3
      have B5 := (B4.junk (o := .lst [.str "a", .str "b", .str "zz"]) l3 l1 l2).keep upd_same l1 l2
      refine ⟨_, d, c, l, _, _, rfl, B5, .inl (.inl (.inl upd_same)), (show 1 ≤ 3 by decide), (show 3 < 2 ^ 30 by decide), by omega, fun v H5 hv B6 => ?_⟩
      obtain ⟨sg, rfl, hsg⟩ : ∃ sg : Str, v = .str sg ∧ (sg.length ≤ 8 ∧ PyData.strOk sg = true) := by
        rcases List.mem_cons.mp hv with rfl | hv
        · exact ⟨_, rfl, by decide +kernel, by decide +kernel⟩
        rcases List.mem_cons.mp hv with rfl | hv
        · exact ⟨_, rfl, by decide +kernel, by decide +kernel⟩
        · rw [List.mem_singleton.mp hv]
          exact ⟨_, rfl, by decide +kernel, by decide +kernel⟩
      have B7 := B6.less (same_upd l3)
      have e5 : H5 p = some (.lst (rowRefs rs)) := B7.same p _ upd_same
      have B8 := B7.less (same_upd n2)
      by_cases hgl : g < xs.length
      · have ht : InM xs xs[g] := ⟨hxs _ (List.getElem_mem hgl), .inr (List.getElem_mem hgl)⟩
        refine ⟨.int g, rfl, .ref a, rfl, a, _, rfl, .inl (S4 B8.same), _, _, rfl, rfl, _, rfl, ?_⟩
        rw [List.length_map, decide_eq_true (show (g : Int) < (xs.length : Int) by omega)]
        refine iteT ⟨.ref a, rfl, .int g, rfl, a, _, g, .int xs[g], rfl, rfl, S4 B8.same, atI_nat (ints_at hgl), ?_⟩
        refine ⟨(show 3 ≤ sizeLine by decide), fun r hr' => ?_⟩
        obtain ⟨r1, r2, r3⟩ := B7.newL hr'
        have rp : p ≠ r := fun e => by rw [← e, upd_same] at r3; cases r3
        have r4 : H2 r = none := (same_upd n2).free r3
        have B9 := ((B8.junk (o := .tup (rowV (xs[j], sg, xs[g]))) r4 r1 r2).keep upd_same r1 r2)
        have e6 : (upd H5 r (.tup (rowV (xs[j], sg, xs[g])))) p = some (.lst (rowRefs rs)) := by rw [upd_ne rp]; exact e5
        have n6 : (upd H2 r (.tup (rowV (xs[j], sg, xs[g])))) p = none := by rw [upd_ne rp]; exact n2
        refine ⟨p, _, .ref r, rfl, rfl, e6, ?_, ?_⟩
        · show (rowRefs rs).length < sizeLine
          unfold rowRefs
          rw [List.length_map]
          exact small1000 (by omega)
        · refine ⟨_, rs ++ [(r, (xs[j], sg, xs[g]))], _, _, _, rfl, ?_, ?_, s2.trans (same_upd r4), n6, ?_, ?_, ?_⟩
          · rw [List.length_append, hl]; rfl
          · intro z hz
            rcases List.mem_append.mp hz with h | h
            · exact hg z h
            · rw [List.mem_singleton.mp h]
              exact ⟨⟨hxs _ (List.getElem_mem hj), .inr (List.getElem_mem hj)⟩, hsg, ht⟩
          · unfold rowRefs
            rw [upd_same, List.map_append]
            rfl
          · intro z hz
            rcases List.mem_append.mp hz with h | h
            · exact sameT (same_upd r4) (ra z h)
            · rw [List.mem_singleton.mp h]
              exact .inl (.inl upd_same)
          · exact (B9.junk n6 p1 p2).mono (by omega)
      · have ht : InM xs (-1) := ⟨⟨by decide, by decide⟩, .inl rfl⟩
        refine ⟨.int g, rfl, .ref a, rfl, a, _, rfl, .inl (S4 B8.same), _, _, rfl, rfl, _, rfl, ?_⟩
        rw [List.length_map, decide_eq_false (show ¬ (g : Int) < (xs.length : Int) by omega)]
        refine iteF ⟨1, rfl, ?_⟩
        refine ⟨(show 3 ≤ sizeLine by decide), fun r hr' => ?_⟩
        obtain ⟨r1, r2, r3⟩ := B7.newL hr'
        have rp : p ≠ r := fun e => by rw [← e, upd_same] at r3; cases r3
        have r4 : H2 r = none := (same_upd n2).free r3
        have B9 := ((B8.junk (o := .tup (rowV (xs[j], sg, -1))) r4 r1 r2).keep upd_same r1 r2)
        have e6 : (upd H5 r (.tup (rowV (xs[j], sg, -1)))) p = some (.lst (rowRefs rs)) := by rw [upd_ne rp]; exact e5
        have n6 : (upd H2 r (.tup (rowV (xs[j], sg, -1)))) p = none := by rw [upd_ne rp]; exact n2
        refine ⟨p, _, .ref r, rfl, rfl, e6, ?_, ?_⟩
        · show (rowRefs rs).length < sizeLine
          unfold rowRefs
          rw [List.length_map]
          exact small1000 (by omega)
        · refine ⟨_, rs ++ [(r, (xs[j], sg, -1))], _, _, _, rfl, ?_, ?_, s2.trans (same_upd r4), n6, ?_, ?_, ?_⟩
          · rw [List.length_append, hl]; rfl
          · intro z hz
            rcases List.mem_append.mp hz with h | h
            · exact hg z h
            · rw [List.mem_singleton.mp h]
              exact ⟨⟨hxs _ (List.getElem_mem hj), .inr (List.getElem_mem hj)⟩, hsg, ht⟩
          · unfold rowRefs
            rw [upd_same, List.map_append]
            rfl
          · intro z hz
            rcases List.mem_append.mp hz with h | h
            · exact sameT (same_upd r4) (ra z h)
            · rw [List.mem_singleton.mp h]
              exact .inl (.inl upd_same)
          · exact (B9.junk n6 p1 p2).mono (by omega)
    · rintro σ H1 ⟨H2, rs, y4, y5, y6, rfl, hl, hg, s2, n2, e1, ra, B1⟩
      exact ⟨.ref p, rfl, q p rs H2 H1 (by omega) hg p1 p2 s2 n2 e1 ra (B1.mono (by omega))⟩
end
end K24

namespace K24
open PySem PySem.Spec PyProof.Rows L2 KS GL LB
def rowK (r : Row) : List Key := [.inl r.1, .inr r.2.1, .inl r.2.2]
theorem rowK_V (r : Row) : (rowK r).map kV = rowV r := rfl
theorem rowK_inj {r q : Row} (h : rowK r = rowK q) : r = q := by
  obtain ⟨a, b, c⟩ := r
  obtain ⟨a', b', c'⟩ := q
  unfold rowK at h
  injection h with h1 h
  injection h with h2 h
  injection h with h3 _
  injection h1 with h1
  injection h2 with h2
  injection h3 with h3
  simp only at h1 h2 h3
  rw [h1, h2, h3]
def rowD (r : Row) : PyData := .tuple [.int r.1, .str r.2.1, .int r.2.2]
theorem enc_row (r : Row) : encK (rowK r) = rowD r := rfl
theorem alike_rows (r q : Row) : W.alike (encK (rowK r)) (encK (rowK q)) = true := by
  rw [enc_row, enc_row]
  unfold rowD
  simp [W.alike, W.alikeAll]
def keyed (rs : List (Addr × Row)) : List (Addr × List Key) := rs.map fun q => (q.1, rowK q.2)
theorem keyed_refs (rs : List (Addr × Row)) : ((keyed rs).map fun p => V.ref p.1) = rowRefs rs := by
  unfold keyed rowRefs
  rw [List.map_map]
  rfl
/-- members of a list of keyed rows come from rows -/
theorem unkey {rs : List (Addr × Row)} : ∀ {L : List (Addr × List Key)}, (∀ p ∈ L, p ∈ keyed rs) → ∃ rs1 : List (Addr × Row), L = keyed rs1 ∧ ∀ q ∈ rs1, q ∈ rs
  | [], _ => ⟨[], rfl, fun _ h => (nomatch h)⟩
  | p :: L, h => by
    obtain ⟨rs1, e, hs⟩ := unkey (L := L) fun q hq => h q (List.mem_cons_of_mem _ hq)
    obtain ⟨q, hq, eq⟩ := List.mem_map.mp (h p List.mem_cons_self)
    refine ⟨q :: rs1, ?_, fun z hz => ?_⟩
    · unfold keyed at e ⊢
      rw [List.map_cons, ← eq, e]
    · rcases List.mem_cons.mp hz with rfl | hz
      · exact hq
      · exact hs z hz
theorem key_mem {rs : List (Addr × Row)} {r : Row} : rowK r ∈ (keyed rs).map (·.2) ↔ r ∈ rs.map (·.2) := by
  unfold keyed
  rw [List.map_map]
  constructor
  · intro h
    obtain ⟨q, hq, e⟩ := List.mem_map.mp h
    exact List.mem_map.mpr ⟨q, hq, rowK_inj e⟩
  · intro h
    obtain ⟨q, hq, e⟩ := List.mem_map.mp h
    exact List.mem_map.mpr ⟨q, hq, by rw [← e]; rfl⟩
theorem dp_row {K : PySem.W.Frag} {H : Hp} {a : Addr} {r : Row} (h : SqT K H a (rowV r)) : Dp K H (.ref a) (rowD r) := .tup h (.cons (.int _) (.cons (.str _) (.cons (.int _) .nil)))
theorem dp_rows {K : PySem.W.Frag} {H : Hp} : ∀ {rs : List (Addr × Row)}, RowsAt K H rs → DpAll K H (rowRefs rs) (rs.map fun q => rowD q.2)
  | [], _ => .nil
  | p :: rs, h => .cons (dp_row (h p List.mem_cons_self)) (dp_rows fun q hq => h q (List.mem_cons_of_mem _ hq))
theorem lay_rows : ∀ rs : List (Addr × Row), (∀ q ∈ rs, Lbl q.2) → PyData.canLayAll0 (rs.map fun q => rowD q.2) = true
  | [], _ => by simp [PyData.canLayAll0]
  | p :: rs, h => by
    rw [List.map_cons, PyData.canLayAll0, lay_rows rs fun q hq => h q (List.mem_cons_of_mem _ hq)]
    have z := (h p List.mem_cons_self).2
    simp [rowD, PyData.canLay0, PyData.canLayAll0, z]
theorem depth_row (r : Row) : (rowD r).depth = 1 := by
  unfold rowD
  simp [PyData.depth, PyData.depthAll]
theorem depth_rows : ∀ rs : List (Addr × Row), PyData.depthAll (rs.map fun q => rowD q.2) ≤ 1
  | [] => by simp [PyData.depthAll]
  | p :: rs => by
    have := depth_rows rs
    rw [List.map_cons, PyData.depthAll, depth_row]
    omega
theorem shaped_rows (rs : List (Addr × Row)) (hg : ∀ q ∈ rs, Lbl q.2) : SeqAt.shaped (PyData.list (rs.map fun q => rowD q.2)) = true := by
  unfold SeqAt.shaped
  have := depth_rows rs
  rw [PyData.canLay0, lay_rows rs hg, PyData.depth, Bool.true_and, decide_eq_true_eq]
  omega
theorem eqv_list_nil (l : List PyData) : PyData.eqv (PyData.list l) (PyData.list []) = l.isEmpty := by
  cases l with
  | nil => simp [PyData.eqv, PyData.eqvAll]
  | cons x l => simp [PyData.eqv, PyData.eqvAll]
theorem erase_map {α β : Type} (f : α → β) : ∀ (l : List α) (j : Nat), (l.map f).eraseIdx j = (l.eraseIdx j).map f
  | [], _ => rfl
  | _ :: _, 0 => rfl
  | x :: l, j + 1 => by
    show f x :: (l.map f).eraseIdx j = f x :: (l.eraseIdx j).map f
    rw [erase_map f l j]
theorem mem_take_out {α : Type} {x : α} : ∀ {l : List α} {j : Nat} (hj : j < l.length), x ∈ l ↔ x = l[j] ∨ x ∈ l.eraseIdx j
  | y :: l, 0, _ => List.mem_cons
  | y :: l, j + 1, hj => by
    show x ∈ y :: l ↔ x = l[j]'(Nat.lt_of_succ_lt_succ hj) ∨ x ∈ y :: l.eraseIdx j
    rw [List.mem_cons, List.mem_cons, mem_take_out (Nat.lt_of_succ_lt_succ hj)]
    constructor
    · rintro (h | h | h)
      · exact .inr (.inl h)
      · exact .inl h
      · exact .inr (.inr h)
    · rintro (h | h | h)
      · exact .inr (.inl h)
      · exact .inl h
      · exact .inr (.inr h)
theorem shaped_nil : SeqAt.shaped (PyData.list []) = true := shaped_ints []
section
variable {P : Program} {w : World} {K : PySem.W.Frag} {mg : Str → Option Value} {base : Heap}
def spMixed (K : PySem.W.Frag) : Sp := fun vs H Q _ => ∃ (H0 : Hp) (d c a : Addr) (n : Nat) (rs : List (Addr × Row)), vs = [.ref d, .ref a] ∧ Bk H0 H d c n ∧ SqL K H0 a (rowRefs rs) ∧ RowsAt K H0 rs ∧ rs.length ≤ 76 ∧ (∀ q ∈ rs, Lbl q.2) ∧ n < 2 ^ 30 ∧
  ∀ (t : Addr) (rs' : List (Addr × Row)) (H1 H' : Hp), (∀ r, r ∈ rs'.map (·.2) ↔ r ∈ rs.map (·.2)) → rs'.length ≤ 76 → Same H0 H1 → SqT K H1 t (rowRefs rs') → RowsAt K H1 rs' → Bk H1 H' d c (n + 80) → Q (.ref t) H'
theorem scMixed : FnScope ["_law_deck_here", "_law_some_here", "_law_left", "_law_found"] ["_law_deck_here", "_law_some_here"] (defScope sMixed) := ⟨rfl, rfl, rfl, by decide +kernel, rfl, by decide +kernel, by decide +kernel⟩
theorem ok_mixed {f : Addr} {fd : FuncData} (F : Fun K "_law_mixed" "_law_mixed" sMixed f fd) (T : Blt mg) (h_law_draw : Has P w K mg base "_law_draw" 1 ["_law_deck_here", "_law_many"] spDraw) : FnOk P w K mg base CX0 2 f fd ["_law_deck_here", "_law_some_here"] (spMixed K) := by
  refine F.ok scMixed (fun vs H Q E h => ?_) (fun cdv A outer s H vs Q E hr h => ?_)
  · obtain ⟨_, _, _, _, _, _, rfl, _⟩ := h
    rfl
  · obtain ⟨H0, d, c, a, n, rs, rfl, B, hS, hR, hlen, hgd, hn, q⟩ := h
    have hu := hu_of hr
    have hu64 := hr.units
    refine ⟨_, (pss_cons (ps_par (i := 2) (j := 3) rfl scMixed.nd rfl rfl (by decide) rfl rfl (pa_cons (pe_callB (cr_sortedK rfl hu64) (by rfl) T.b_sorted (by decide +kernel) (pa_cons (pe_callTy (cr_setK rfl hu64) (by rfl) T.b_set (by decide +kernel) (pa_cons (pv 1) pa_nil)) pa_nil)) (pa_cons (pe_lst pa_nil) pa_nil)) (by rfl))
  (pss_cons (ps_while PassesOwn.never (pt_cmpR (op_neD hu64) (pv 2) (pe_lst pa_nil) (nomark _))
    (pss_one (ps_expr (pe_bm PySem.F.plainAttrs_list PySem.F.slot_list_append PySem.F.type_list_append mt_append (pv 3) (pa_cons (pe_bm PySem.F.plainAttrs_list PySem.F.slot_list_pop PySem.F.type_list_pop mt_popAt (pv 2) (pa_cons (pe_has h_law_draw (hr.mono (by decide)) rfl (pa_cons (pv 0) (pa_cons (pe_callB call_len_seq (by rfl) T.b_len PySem.boot_len (pa_cons (pv 2) pa_nil)) pa_nil))) pa_nil)) pa_nil)))))
  (pss_one (ps_ret (pe_callTy call_tuple_of (by rfl) T.b_tuple (by decide +kernel) (pa_cons (pv 3) pa_nil)))))), ?_⟩
    refine ⟨.ref a, rfl, a, keyed rs, rfl, by rw [keyed_refs]; exact B.same.seq hS, fun p hp => ?_, by unfold keyed; rw [List.length_map]; exact hlen, fun z L hz L1 L2 L3 => ?_⟩
    · obtain ⟨r, hr', rfl⟩ := List.mem_map.mp hp
      exact sameT B.same (hR r hr')
    obtain ⟨z1, z2, z3⟩ := B.newL hz
    have Bz := B.junk (o := KSetO P w z L) z3 z1 z2
    obtain ⟨rs1, rfl, hs1⟩ := unkey L1
    refine ⟨z, keyed rs1, rfl, upd_same, fun p hp => ?_, fun p hp p' hp' => ?_, fun p hp => ?_, fun L' b pm ln hl76 _ hb => ?_⟩
    · obtain ⟨r, hr', rfl⟩ := List.mem_map.mp hp
      exact sameT Bz.same (hR r (hs1 r hr'))
    · obtain ⟨r, _, rfl⟩ := List.mem_map.mp hp
      obtain ⟨r', _, rfl⟩ := List.mem_map.mp hp'
      exact alike_rows _ _
    · obtain ⟨r, _, rfl⟩ := List.mem_map.mp hp
      exact List.cons_ne_nil _ _
    obtain ⟨rs2, rfl, hs2⟩ := unkey (rs := rs1) (L := L') fun p hp => pm.mem_iff.mp hp
    rw [keyed_refs]
    obtain ⟨b1, b2, b3⟩ := Bz.newL hb
    have Bb := Bz.junk (o := .lst (rowRefs rs2)) b3 b1 b2
    have hall : ∀ r, r ∈ rs2.map (·.2) ↔ r ∈ rs.map (·.2) := fun r => by
      constructor
      · intro h
        obtain ⟨x, hx, e⟩ := List.mem_map.mp h
        exact List.mem_map.mpr ⟨x, hs1 x (hs2 x hx), e⟩
      · intro h
        have h1 := key_mem.mpr h
        obtain ⟨x, hx, e⟩ := List.mem_map.mp h1
        have h2 := L2 x hx
        rw [e] at h2
        exact key_mem.mp ((pm.map (·.2)).mem_iff.mpr h2)
    have hlen2 : rs2.length ≤ 76 := by
      unfold keyed at hl76
      rwa [List.length_map] at hl76
    have hR2 : ∀ {H' : Hp}, Same H0 H' → RowsAt K H' rs2 := fun sm x hx => sameT sm (hR x (hs1 x (hs2 x hx)))
    refine ⟨Nat.zero_le _, fun e he => ⟨_, _, rfl, ?_⟩⟩
    obtain ⟨e1, e2, e3⟩ := Bb.newL he
    have be : b ≠ e := fun x => by rw [← x, upd_same] at he; cases he
    have Be := Bb.junk (o := .lst []) e3 e1 e2
    have k1 : (upd (upd (upd H z (KSetO P w z (keyed rs1))) b (.lst (rowRefs rs2))) e (.lst [])) b = some (.lst (rowRefs rs2)) := by rw [upd_ne be, upd_same]
    have k2 : (upd (upd (upd H z (KSetO P w z (keyed rs1))) b (.lst (rowRefs rs2))) e (.lst [])) e = some (.lst []) := upd_same
    -- while
    refine ⟨fun m σ H4 => ∃ l1 f1 : List (Addr × Row), σ = [some (.ref d), some (.ref a), some (.ref b), some (.ref e)] ∧ m = l1.length ∧ l1.length + f1.length = rs2.length ∧ (∀ x, x ∈ rs2 ↔ x ∈ l1 ∨ x ∈ f1) ∧ H4 b = some (.lst (rowRefs l1)) ∧ H4 e = some (.lst (rowRefs f1)) ∧ Bk H0 H4 d c (n + f1.length),
      ⟨_, rs2, [], rfl, rfl, rfl, fun x => by simp, k1, k2, Be⟩, ?_⟩
    rintro m σ H4 ⟨l1, f1, rfl, rfl, hlf, hmem, k1, k2, B4⟩
    have hRl : ∀ {H' : Hp}, Same H0 H' → RowsAt K H' l1 := fun sm x hx => hR2 sm x ((hmem x).mpr (.inl hx))
    have hRf : ∀ {H' : Hp}, Same H0 H' → RowsAt K H' f1 := fun sm x hx => hR2 sm x ((hmem x).mpr (.inr hx))
    refine ⟨.ref b, rfl, Nat.zero_le _, fun y hy => ?_⟩
    obtain ⟨y1, y2, y3⟩ := B4.newL hy
    have by' : b ≠ y := ne_of_none k1 hy
    have ey : e ≠ y := ne_of_none k2 hy
    have B5 := B4.junk (o := .lst []) y3 y1 y2
    have m1 : (upd H4 y (.lst [])) b = some (.lst (rowRefs l1)) := by rw [upd_ne by']; exact k1
    have m2 : (upd H4 y (.lst [])) e = some (.lst (rowRefs f1)) := by rw [upd_ne ey]; exact k2
    refine ⟨_, _, .lst (.inl (.inl m1)) (dp_rows (hRl B5.same)), .lst (.inl (.inl upd_same)) .nil, shaped_rows l1 (fun x hx => hgd x (hs1 x (hs2 x ((hmem x).mpr (.inl hx))))), shaped_nil, _, rfl, ?_⟩
    rw [eqv_list_nil]
    generalize upd H4 y (.lst []) = H5 at B5 m1 m2 ⊢
    cases hl1 : l1 with
    | nil =>
      subst hl1
      refine iteF ?_
      refine ⟨.ref e, rfl, e, _, rfl, .inl ⟨.inl (.inl m2), fun t ht => ?_⟩⟩
      obtain ⟨t1, t2, t3⟩ := B5.newL ht
      have B6 := ((B5.junk (o := .tup (rowRefs f1)) t3 t1 t2).keep upd_same t1 t2)
      have hfl : f1.length = rs2.length := by
        have h := hlf
        simp at h
        exact h
      refine q t f1 _ _ (fun r => ?_) (by omega) (same_upd t3) (.inl (.inl upd_same)) (hRf (same_upd t3)) (B6.mono (by omega))
      rw [← hall r]
      constructor
      · intro h
        obtain ⟨x, hx, ex⟩ := List.mem_map.mp h
        exact List.mem_map.mpr ⟨x, (hmem x).mpr (.inr hx), ex⟩
      · intro h
        obtain ⟨x, hx, ex⟩ := List.mem_map.mp h
        refine List.mem_map.mpr ⟨x, ?_, ex⟩
        rcases (hmem x).mp hx with h | h
        · cases h
        · exact h
    | cons x0 l0 =>
      rw [← hl1]
      have hne : 0 < l1.length := by rw [hl1]; exact Nat.succ_pos _
      have e1' : (!(l1.map fun q => rowD q.2).isEmpty) = true := by rw [hl1]; rfl
      refine (show (if (!(List.map (fun q => rowD q.2) l1).isEmpty) = true then _ else _) from ?_)
      rw [if_pos e1']
      refine ⟨fun σ H6 => ∃ l2 f2 : List (Addr × Row), σ = [some (.ref d), some (.ref a), some (.ref b), some (.ref e)] ∧ l2.length + 1 = l1.length ∧ l2.length + f2.length = rs2.length ∧ (∀ x, x ∈ rs2 ↔ x ∈ l2 ∨ x ∈ f2) ∧ H6 b = some (.lst (rowRefs l2)) ∧ H6 e = some (.lst (rowRefs f2)) ∧ Bk H0 H6 d c (n + f2.length),
        fun σ H6 ⟨l2, f2, h1, h2, h3⟩ => ⟨l2.length, by omega, l2, f2, h1, rfl, h3⟩, ?_⟩
      have B5b := (B5.keep m1 b1 b2).keep m2 e1 e2
      refine ⟨.ref e, rfl, .inl ⟨rfl, _, .inl (.inl m2)⟩, .ref b, rfl, .inl ⟨rfl, _, .inl (.inl m1)⟩, .ref d, rfl, .ref b, rfl, b, _, rfl, .inl (.inl (.inl m1)), _, d, c, _, _, rfl, B5b, (by unfold rowRefs; rw [List.length_map]; omega), (by unfold rowRefs; rw [List.length_map]; omega), by omega, fun k H6 k0 kl B6 => ?_⟩
      have kl' : k < l1.length := by unfold rowRefs at kl; rwa [List.length_map] at kl
      obtain ⟨j, rfl⟩ : ∃ j : Nat, k = (j : Int) := ⟨k.toNat, by omega⟩
      have hj : j < l1.length := by omega
      have ebn : e ≠ b := be.symm
      have n1 : H6 b = some (.lst (rowRefs l1)) := B6.same b _ (by rw [upd_ne be, upd_same])
      have n2 : H6 e = some (.lst (rowRefs f1)) := B6.same e _ upd_same
      have B7 : Bk H0 H6 d c (n + f1.length + 1) := B6.less ((same_upd b3).trans (same_upd (by rw [upd_ne ebn]; exact e3)))
      have hix : ixN (rowRefs l1).length (j : Int) = some j := by
        unfold ixN rowRefs
        rw [List.length_map, if_pos (by omega), if_pos (by omega)]
        rfl
      have hit : (rowRefs l1)[j]? = some (.ref (l1[j]).1) := by
        unfold rowRefs
        rw [List.getElem?_map, List.getElem?_eq_getElem hj]
        rfl
      refine ⟨b, _, (j : Int), j, .ref (l1[j]).1, rfl, rfl, n1, by omega, by omega, (ixN_seq hix).1, hit, ?_⟩
      have her : (rowRefs l1).eraseIdx j = rowRefs (l1.eraseIdx j) := by
        unfold rowRefs
        rw [erase_map]
      rw [her]
      have n3 : (upd H6 b (.lst (rowRefs (l1.eraseIdx j)))) e = some (.lst (rowRefs f1)) := by rw [upd_ne ebn]; exact n2
      refine ⟨e, _, _, rfl, rfl, n3, ?_, ?_⟩
      · unfold rowRefs
        rw [List.length_map]
        exact small1000 (by omega)
      · refine ⟨l1.eraseIdx j, f1 ++ [l1[j]], rfl, ?_, ?_, fun x => ?_, ?_, ?_, ?_⟩
        · rw [List.length_eraseIdx_of_lt hj]
          omega
        · rw [List.length_eraseIdx_of_lt hj, List.length_append]
          simp
          omega
        · rw [hmem x, List.mem_append, List.mem_singleton]
          rw [mem_take_out hj]
          constructor
          · rintro ((h | h) | h)
            · exact .inr (.inr h)
            · exact .inl h
            · exact .inr (.inl h)
          · rintro (h | h | h)
            · exact .inl (.inr h)
            · exact .inr h
            · exact .inl (.inl h)
        · rw [upd_ne be, upd_same]
        · rw [upd_same]
          unfold rowRefs
          rw [List.map_append]
          rfl
        · have B8 := ((B7.junk (o := .lst (rowRefs (l1.eraseIdx j))) b3 b1 b2).junk (o := .lst (rowRefs f1 ++ [.ref (l1[j]).1])) e3 e1 e2)
          exact B8.mono (by rw [List.length_append]; simp; omega)
end
end K24

namespace K24
open PySem PySem.Spec PyProof.Rows L2 KS GL LB
/-- a list of rows that is being made -/
structure LM (K : PySem.W.Frag) (M : List Int) (H1 H : Hp) (d c p : Addr) (rs : List (Addr × Row)) (m : Nat) : Prop where
  n1 : H1 p = none
  pd : p ≠ d
  pc : p ≠ c
  at_ : H p = some (.lst (rowRefs rs))
  rows : RowsAt K H1 rs
  good : ∀ q ∈ rs, Good M q.2
  bk : Bk H1 H d c m
theorem rowRefs_len (rs : List (Addr × Row)) : (rowRefs rs).length = rs.length := by
  unfold rowRefs
  rw [List.length_map]
theorem rowRefs_add (rs rs2 : List (Addr × Row)) : rowRefs (rs ++ rs2) = rowRefs rs ++ rowRefs rs2 := by
  unfold rowRefs
  rw [List.map_append]
section
variable {K : PySem.W.Frag} {M : List Int} {H1 H : Hp} {d c p : Addr} {rs : List (Addr × Row)} {m : Nat}
theorem LM.mono {m' : Nat} (L : LM K M H1 H d c p rs m) (h : m ≤ m') : LM K M H1 H d c p rs m' := ⟨L.n1, L.pd, L.pc, L.at_, L.rows, L.good, L.bk.mono h⟩
theorem LM.row {r : Addr} {x : Row} (L : LM K M H1 H d c p rs m) (hr : H r = none) (hg : Good M x) :
    Same H1 (upd H1 r (.tup (rowV x))) ∧ (upd H r (.tup (rowV x))) p = some (.lst (rowRefs rs)) ∧ LM K M (upd H1 r (.tup (rowV x))) (upd (upd H r (.tup (rowV x))) p (.lst (rowRefs rs ++ [.ref r]))) d c p (rs ++ [(r, x)]) m := by
  obtain ⟨r1, r2, r3⟩ := L.bk.newL hr
  have rp : p ≠ r := ne_of_none L.at_ hr
  have S := same_upd (o := .tup (rowV x)) r3
  have n6 : (upd H1 r (.tup (rowV x))) p = none := by rw [upd_ne rp]; exact L.n1
  have B := ((L.bk.junk (o := .tup (rowV x)) r3 r1 r2).keep upd_same r1 r2).junk (p := p) (o := .lst (rowRefs rs ++ [.ref r])) n6 L.pd L.pc
  refine ⟨S, by rw [upd_ne rp]; exact L.at_, n6, L.pd, L.pc, ?_, fun z hz => ?_, fun z hz => ?_, B⟩
  · rw [upd_same, rowRefs_add]
    rfl
  · rcases List.mem_append.mp hz with h | h
    · exact sameT S (L.rows z h)
    · rw [List.mem_singleton.mp h]
      exact .inl (.inl upd_same)
  · rcases List.mem_append.mp hz with h | h
    · exact L.good z h
    · rw [List.mem_singleton.mp h]
      exact hg
/-- an int of a list, by any index that lies in it -/
theorem atI_ints {xs : List Int} {i : Int} (h1 : -(xs.length : Int) ≤ i) (h2 : i < xs.length) : ∃ x, x ∈ xs ∧ atI (xs.map V.int) i = some (.int x) := by
  have : ∃ j : Nat, j < xs.length ∧ ixN (xs.map V.int).length i = some j := by
    unfold ixN
    rw [List.length_map]
    by_cases h : 0 ≤ i
    · exact ⟨i.toNat, by omega, by rw [if_pos h, if_pos h2]⟩
    · exact ⟨(i + xs.length).toNat, by omega, by rw [if_neg h, if_pos h1]⟩
  obtain ⟨j, hj, e⟩ := this
  refine ⟨xs[j], List.getElem_mem hj, ?_⟩
  unfold atI
  rw [e]
  exact ints_at hj
end
section
variable {P : Program} {w : World} {K : PySem.W.Frag} {mg : Str → Option Value} {base : Heap}
def spSome (K : PySem.W.Frag) : Sp := fun vs H Q _ => ∃ (H0 : Hp) (d c : Addr) (n : Nat), vs = [.ref d] ∧ Bk H0 H d c n ∧ n < 2 ^ 29 ∧
  ∀ (t : Addr) (rs : List (Addr × Row)) (M : List Int) (H1 H' : Hp), M.length ≤ 30 → rs.length ≤ 76 → (∀ q ∈ rs, Good M q.2) → Same H0 H1 → SqT K H1 t (rowRefs rs) → RowsAt K H1 rs → Bk H1 H' d c (n + 600) → Q (.ref t) H'
/-- between two ifs -/
def Mid (K : PySem.W.Frag) (H0 : Hp) (d c a : Addr) (xs : List Int) (way : Int) (n : Nat) (i : Nat) : L2.St → Hp → Prop := fun σ H => ∃ (H1 : Hp) (p : Addr) (rs : List (Addr × Row)) (y4 y5 y6 y7 y8 : Option V),
  σ = [some (.ref d), some (.ref a), some (.int way), some (.ref p), y4, y5, y6, y7, y8] ∧ Same H0 H1 ∧ H1 a = some (.lst (xs.map V.int)) ∧ ((i : Int) < way → rs.length ≤ 39) ∧ rs.length ≤ 70 ∧ LM K xs H1 H d c p rs (n + 200 + 40 * i)
theorem scSome : FnScope ["_law_deck_here", "_law_spots_here", "_law_way", "_law_some_here", "_law_row", "_law_k", "_law_here", "_law_sign", "_law_there"] ["_law_deck_here"] (defScope sSome) := ⟨rfl, rfl, rfl, by decide +kernel, rfl, by decide +kernel, by decide +kernel⟩
theorem ok_some {f : Addr} {fd : FuncData} (F : Fun K "_law_some" "_law_some" sSome f fd) (T : Blt mg) (h_law_draw : Has P w K mg base "_law_draw" 1 ["_law_deck_here", "_law_many"] spDraw)
    (h_law_pick : Has P w K mg base "_law_pick" 2 ["_law_deck_here", "_law_some_here"] (spPick K)) (h_law_spots : Has P w K mg base "_law_spots" 3 ["_law_deck_here", "_law_size"] spSpots)
    (h_law_onward : Has P w K mg base "_law_onward" 3 ["_law_deck_here", "_law_spots_here", "_law_size"] (spOnward K)) (h_law_mixed : Has P w K mg base "_law_mixed" 2 ["_law_deck_here", "_law_some_here"] (spMixed K)) :
    FnOk P w K mg base CX0 4 f fd ["_law_deck_here"] (spSome K) := by
  refine F.ok scSome (fun vs H Q E h => ?_) (fun cdv A outer s H vs Q E hr h => ?_)
  · obtain ⟨_, _, _, _, rfl, _⟩ := h
    rfl
  · obtain ⟨H0, d, c, n, rfl, B, hn, q⟩ := h
    have hu := hu_of hr
    have hu64 := hr.units
    refine ⟨_, (pss_cons (ps_asg (pe_tup (pa_cons (pe_has h_law_spots (hr.mono (by decide)) rfl (pa_cons (pv 0) (pa_cons (pe_op op_add pe_int (pe_has h_law_draw (hr.mono (by decide)) rfl (pa_cons (pv 0) (pa_cons pe_int pa_nil)))) pa_nil))) (pa_cons (pe_has h_law_draw (hr.mono (by decide)) rfl (pa_cons (pv 0) (pa_cons pe_int pa_nil))) pa_nil))) (pg_tup rfl (pgs_cons (pg_name (i := 1) scSome.nd rfl (Or.inr rfl)) (pgs_cons (pg_name (i := 2) scSome.nd rfl (Or.inl rfl)) pgs_nil))))
  (pss_cons (ps_set (i := 3) scSome.nd rfl (Or.inl rfl) (pe_has h_law_onward (hr.mono (by decide)) rfl (pa_cons (pv 0) (pa_cons (pv 1) (pa_cons (pe_has h_law_draw (hr.mono (by decide)) rfl (pa_cons (pv 0) (pa_cons pe_int pa_nil))) pa_nil)))))
  (C8.pss_cut (ps_if (PW.pt (pw_and (pt_cmpR op_eq (pv 2) pe_int (nomark _)) (pw_and1 (pt_cmpR (op_neD hu64) (pv 3) (pe_lst pa_nil) (nomark _)))))
    (pss_cons (ps_set (i := 4) scSome.nd rfl (Or.inl rfl) (pe_has h_law_pick (hr.mono (by decide)) rfl (pa_cons (pv 0) (pa_cons (pv 3) pa_nil))))
  (pss_one (ps_expr (pe_bm PySem.F.plainAttrs_list PySem.F.slot_list_append PySem.F.type_list_append mt_append (pv 3) (pa_cons (pe_tup (pa_cons (pe_has h_law_pick (hr.mono (by decide)) rfl (pa_cons (pv 0) (pa_cons (pv 1) pa_nil))) (pa_cons pe_str (pa_cons (pe_ix ix_tup (pv 4) pe_int (fun _ _ => rfl)) pa_nil)))) pa_nil)))))
    pss_nil)
  (C8.pss_cut (ps_if (pt_cmpR op_eq (pv 2) pe_int (nomark _))
    (pss_one (ps_expr (pe_bm PySem.F.plainAttrs_list PySem.F.slot_list_extend PySem.F.type_list_extend mt_extend (pv 3) (pa_cons (pe_lc (own := [("_law_k", 5)]) (g := gName 5) (tt := tYes) (te := tTup (tCons (tOp (rIxL K) (tVar 1) (tOp (rI0 fun i j => .int (i - j)) (tVar 5) (tC (.int 1)))) (tCons (tC (.str "on")) (tCons (tOp (rIxL K) (tVar 1) (tVar 5)) tNil)))) rfl scSome.nd (pi_range1 (by rfl) T.b_range (pa_cons (pe_callB call_len_seq (by rfl) T.b_len PySem.boot_len (pa_cons (pv 1) pa_nil)) pa_nil)) (blkOk_by (own := [("_law_k", 5)]) (N := ["_law_deck_here", "_law_spots_here", "_law_way", "_law_some_here", "_law_row", "_law_k", "_law_here", "_law_sign", "_law_there"]) (sc := defScope sSome) (by decide +kernel)) (fun _ _ _ _ _ => (pg_name (i := 5) scSome.nd rfl (Or.inl rfl))) (fun _ _ _ _ _ => pts_nil) (fun _ _ _ _ _ => (pe_tup (pa_cons (pe_ix ix_list (pv 1) (pe_op op_sub (pv 5) pe_int) (fun _ _ => rfl)) (pa_cons pe_str (pa_cons (pe_ix ix_list (pv 1) (pv 5) (fun _ _ => rfl)) pa_nil)))))) pa_nil))))
    pss_nil)
  (C8.pss_cut (ps_if (pt_cmpR op_eq (pv 2) pe_int (nomark _))
    (pss_one (ps_expr (pe_bm PySem.F.plainAttrs_list PySem.F.slot_list_extend PySem.F.type_list_extend mt_extend (pv 3) (pa_cons (pe_lc (own := [("_law_k", 5)]) (g := gName 5) (tt := tYes) (te := tTup (tCons (tOp (rIxL K) (tVar 1) (tVar 5)) (tCons (tC (.str "on")) (tCons (tOp (rIxL K) (tVar 1) (tOp (rI0 fun i j => .int (i + j)) (tVar 5) (tC (.int 1)))) tNil)))) rfl scSome.nd (pi_range1 (by rfl) T.b_range (pa_cons (pe_op op_sub (pe_callB call_len_seq (by rfl) T.b_len PySem.boot_len (pa_cons (pv 1) pa_nil)) pe_int) pa_nil)) (blkOk_by (own := [("_law_k", 5)]) (N := ["_law_deck_here", "_law_spots_here", "_law_way", "_law_some_here", "_law_row", "_law_k", "_law_here", "_law_sign", "_law_there"]) (sc := defScope sSome) (by decide +kernel)) (fun _ _ _ _ _ => (pg_name (i := 5) scSome.nd rfl (Or.inl rfl))) (fun _ _ _ _ _ => pts_nil) (fun _ _ _ _ _ => (pe_tup (pa_cons (pe_ix ix_list (pv 1) (pv 5) (fun _ _ => rfl)) (pa_cons pe_str (pa_cons (pe_ix ix_list (pv 1) (pe_op op_add (pv 5) pe_int) (fun _ _ => rfl)) pa_nil)))))) pa_nil))))
    pss_nil)
  (C8.pss_cut (ps_if (pt_cmpR op_eq (pv 2) pe_int (nomark _))
    (pss_one (ps_expr (pe_bm PySem.F.plainAttrs_list PySem.F.slot_list_append PySem.F.type_list_append mt_append (pv 3) (pa_cons (pe_tup (pa_cons (pe_ix ix_list (pv 1) (pe_un un_neg pe_int) (fun _ _ => rfl)) (pa_cons pe_str (pa_cons (pe_ix ix_list (pv 1) (pe_un un_neg pe_int) (fun _ _ => rfl)) pa_nil)))) pa_nil))))
    pss_nil)
  (C8.pss_cut (ps_if (pt_cmpR op_eq (pv 2) pe_int (nomark _))
    (pss_one (ps_setLc (i := 3) (own := [("_law_here", 6), ("_law_sign", 7), ("_law_there", 8)]) (g := gTup K 3 (gCons (gName 6) (gCons (gName 7) (gCons (gName 8) gNil)))) (tt := tYes) rfl scSome.nd rfl rfl (sw_true rfl rfl rfl (by decide +kernel)) (pi_list (pv 3)) (blkOk_by (own := [("_law_here", 6), ("_law_sign", 7), ("_law_there", 8)]) (N := ["_law_deck_here", "_law_spots_here", "_law_way", "_law_some_here", "_law_row", "_law_k", "_law_here", "_law_sign", "_law_there"]) (sc := defScope sSome) (by decide +kernel)) (fun _ _ _ _ _ => (pg_tup rfl (pgs_cons (pg_name (i := 6) scSome.nd rfl (Or.inl rfl)) (pgs_cons (pg_name (i := 7) scSome.nd rfl (Or.inl rfl)) (pgs_cons (pg_name (i := 8) scSome.nd rfl (Or.inl rfl)) pgs_nil))))) (fun _ _ _ _ _ => pts_nil) (fun _ _ _ _ _ => (pe_tup (pa_cons (pv 6) (pa_cons (pv 7) (pa_cons (pe_un un_neg pe_int) pa_nil)))))))
    pss_nil)
  (C8.pss_cut (ps_if (pt_cmpR op_eq (pv 2) pe_int (nomark _))
    (pss_one (ps_setLc (i := 3) (own := [("_law_k", 5)]) (g := gName 5) (tt := tYes) (te := tTup (tCons (tCall (spPick K) [] E0 (tCons (tVar 0) (tCons (tVar 1) tNil))) (tCons (tC (.str "a")) (tCons (tCall (spPick K) [] E0 (tCons (tVar 0) (tCons (tOp rCat (tVar 1) (tOp rRep (tLst (tCons (tUn (rU fun i => .int (-i)) (tC (.int 1))) tNil)) (tC (.int 9)))) tNil))) tNil)))) rfl scSome.nd rfl rfl (sw_true rfl rfl rfl (by decide +kernel)) (pi_range1 (by rfl) T.b_range (pa_cons (pe_has h_law_draw (hr.mono (by decide)) rfl (pa_cons (pv 0) (pa_cons pe_int pa_nil))) pa_nil)) (blkOk_by (own := [("_law_k", 5)]) (N := ["_law_deck_here", "_law_spots_here", "_law_way", "_law_some_here", "_law_row", "_law_k", "_law_here", "_law_sign", "_law_there"]) (sc := defScope sSome) (by decide +kernel)) (fun _ _ _ _ _ => (pg_name (i := 5) scSome.nd rfl (Or.inl rfl))) (fun _ _ _ _ _ => pts_nil) (fun _ _ _ _ _ => (pe_tup (pa_cons (pe_has h_law_pick (hr.mono (by decide)) rfl (pa_cons (pv 0) (pa_cons (pv 1) pa_nil))) (pa_cons pe_str (pa_cons (pe_has h_law_pick (hr.mono (by decide)) rfl (pa_cons (pv 0) (pa_cons (pe_op op_cat (pv 1) (pe_op op_rep (pe_lst (pa_cons (pe_un un_neg pe_int) pa_nil)) pe_int)) pa_nil))) pa_nil)))))))
    pss_nil)
  (pss_one (ps_ret (pe_has h_law_mixed (hr.mono (by decide)) rfl (pa_cons (pv 0) (pa_cons (pv 3) pa_nil))))))))))))), ?_⟩
    refine ⟨.ref d, rfl, .ref d, rfl, H0, d, c, n, 30, rfl, B, by decide, by decide, by omega, fun k H1 k0 k1 B1 => ⟨1, k, rfl, rfl, ?_⟩⟩
    obtain ⟨size, hsize⟩ : ∃ size : Nat, 1 + k = (size : Int) := ⟨(1 + k).toNat, by omega⟩
    dsimp only
    rw [hsize]
    refine ⟨H0, d, c, n + 1, size, rfl, B1, by omega, by omega, fun a xs H2 hxl hxs a1 a2 a3 e2 B2 => ?_⟩
    have Ba := B2.keep e2 a1 a2
    have Sa := same_upd (o := .lst (xs.map V.int)) a3
    refine ⟨.ref d, rfl, _, d, c, _, 7, rfl, Ba, by decide, by decide, by omega, fun way H3 w0 w1 B3 => ?_⟩
    refine ⟨(show 2 ≤ sizeLine by decide), fun tt htt => ?_⟩
    obtain ⟨t1, t2, t3⟩ := B3.newL htt
    have B4 := B3.junk (o := .tup [.ref a, .int way]) t3 t1 t2
    refine ⟨tt, _, rfl, .inl (.inl upd_same), rfl, _, _, rfl, _, _, rfl, rfl, ?_⟩
    have ea : (upd H0 a (.lst (xs.map V.int))) a = some (.lst (xs.map V.int)) := upd_same
    generalize upd H0 a (.lst (xs.map V.int)) = Ha at Ba Sa B3 B4 t3 ea
    generalize upd H3 tt (.tup [.ref a, .int way]) = H4 at B4 ⊢
    -- onward
    refine ⟨.ref d, rfl, .ref a, rfl, .ref d, rfl, _, d, c, _, 40, rfl, B4, by decide, by decide, by omega, fun k2 H5 k20 k21 B5 => ?_⟩
    obtain ⟨size2, rfl⟩ : ∃ size2 : Nat, k2 = (size2 : Int) := ⟨k2.toNat, by omega⟩
    refine ⟨Ha, d, c, a, _, size2, xs, rfl, B5, .inl (.inl ea), by omega, by omega, hxs, by omega, by omega, fun p rs H6 H7 hrl hg p1 p2 s6 n6 e7 ra B7 => ?_⟩
    have hx1 : 1 ≤ xs.length := by omega
    have hx2 : xs.length ≤ 30 := by omega
    have M0 : Mid K H0 d c a xs way n 0 [some (.ref d), some (.ref a), some (.int way), some (.ref p), none, none, none, none, none] H7 :=
      ⟨H6, p, rs, none, none, none, none, none, rfl, Sa.trans s6, s6 _ _ ea, fun _ => by omega, by omega, n6, p1, p2, e7, ra, hg, B7.mono (by omega)⟩
    -- way 1
    refine ⟨Mid K H0 d c a xs way n 1, ?_, fun σ H8 M1 => ?_⟩
    · refine ⟨.int way, rfl, rfl, _, rfl, ?_⟩
      refine ite2 (fun h1 => ?_) (fun h1 => iteF ?_)
      · have hw : way = 1 := V.int.inj (of_decide_eq_true h1)
        obtain ⟨H1, p', rs', y4, y5, y6, y7, y8, eσ, s1, ea1, hlt, hle, L⟩ := M0
        injection eσ with _ eσ
        injection eσ with _ eσ
        injection eσ with _ eσ
        injection eσ with ep eσ
        injection ep with ep
        injection ep with ep
        subst ep
        refine ⟨.ref p, rfl, Nat.zero_le _, fun y hy => ?_⟩
        obtain ⟨z1, z2, z3⟩ := L.bk.newL hy
        have py : p ≠ y := ne_of_none L.at_ hy
        have B8 := L.bk.junk (o := .lst []) z3 z1 z2
        have at8 : (upd H7 y (.lst [])) p = some (.lst (rowRefs rs')) := by rw [upd_ne py]; exact L.at_
        refine ⟨_, _, .lst (.inl (.inl at8)) (dp_rows (L.rows.mono B8.same)), .lst (.inl (.inl upd_same)) .nil, shaped_rows rs' (fun x hx => (L.good x hx).2.1), shaped_nil, _, rfl, ?_⟩
        rw [eqv_list_nil]
        have L8 : LM K xs H1 (upd H7 y (.lst [])) d c p rs' _ := ⟨L.n1, L.pd, L.pc, at8, L.rows, L.good, B8⟩
        generalize upd H7 y (.lst []) = H8 at B8 at8 L8 ⊢
        cases hrs : rs' with
        | nil => exact iteF ⟨H1, p, rs', _, _, _, _, _, rfl, s1, ea1, fun _ => hlt (by omega), hle, L8.mono (by omega)⟩
        | cons q0 r0 =>
          refine iteT ?_
          have hpos : 0 < rs'.length := by rw [hrs]; exact Nat.succ_pos _
          have h39 := hlt (show ((0 : Nat) : Int) < way by omega)
          refine ⟨.ref d, rfl, .ref p, rfl, _, d, c, p, _, rowRefs rs', rfl, L8.bk.keep L8.at_ L8.pd L8.pc, .inl (.inl (.inl upd_same)), by rw [rowRefs_len]; exact hpos, by rw [rowRefs_len]; omega, by omega, fun v H9 hv B9 => ?_⟩
          obtain ⟨q0', hq0, rfl⟩ := List.mem_map.mp hv
          have at9 : H9 p = some (.lst (rowRefs rs')) := B9.same p _ upd_same
          have B10 := B9.less (same_upd L8.n1)
          refine ⟨.ref p, rfl, .inl ⟨rfl, _, .inl (.inl at9)⟩, .ref d, rfl, .ref a, rfl, _, d, c, a, _, xs.map V.int, rfl, B10.keep at9 L.pd L.pc, .inl (.inl (.inl (by rw [upd_ne (ne_of_none ea1 L.n1)]; exact ea1))), by rw [List.length_map]; exact hx1, by rw [List.length_map]; omega, by omega, fun v2 H10 hv2 B11 => ?_⟩
          obtain ⟨xv, hxv, rfl⟩ := List.mem_map.mp hv2
          have at10 : H10 p = some (.lst (rowRefs rs')) := B11.same p _ upd_same
          have L10 : LM K xs H1 H10 d c p rs' _ := ⟨L.n1, L.pd, L.pc, at10, L.rows, L.good, B11.less (same_upd L.n1)⟩
          refine ⟨.ref q0'.1, rfl, q0'.1, rowV q0'.2, 0, .int q0'.2.1, rfl, rfl, sameT L10.bk.same (L.rows q0' hq0), atI_nat (j := 0) rfl, (show 3 ≤ sizeLine by decide), fun r hr' => ?_⟩
          obtain ⟨S, hat, L11⟩ := L10.row (x := (xv, "back", q0'.2.1)) hr' ⟨⟨hxs xv hxv, .inr hxv⟩, ⟨(show ("back" : Str).length ≤ 8 by decide +kernel), (show PyData.strOk "back" = true by decide +kernel)⟩, (L.good q0' hq0).1⟩
          refine ⟨p, _, .ref r, rfl, rfl, hat, by rw [rowRefs_len]; exact small1000 (by omega), ?_⟩
          refine ⟨_, p, _, _, _, _, _, _, rfl, s1.trans S, S _ _ ea1, fun h => by omega, by rw [List.length_append]; simp; omega, L11.mono (by omega)⟩
      · obtain ⟨H1, p', rs', y4, y5, y6, y7, y8, eσ, s1, ea1, hlt, hle, L⟩ := M0
        exact ⟨H1, p', rs', y4, y5, y6, y7, y8, eσ, s1, ea1, fun h => hlt (by omega), hle, L.mono (by omega)⟩
    -- way 2
    refine ⟨Mid K H0 d c a xs way n 2, ?_, fun σ H8 M2 => ?_⟩
    · obtain ⟨H1, p, rs, y4, y5, y6, y7, y8, rfl, s1, ea1, hlt, hle, L⟩ := M1
      refine ⟨.int way, rfl, rfl, _, rfl, ite2 (fun h1 => ?_) (fun h1 => ⟨H1, p, rs, y4, y5, y6, y7, y8, rfl, s1, ea1, fun h => hlt (by omega), hle, L.mono (by omega)⟩)⟩
      have hw : way = 2 := V.int.inj (of_decide_eq_true h1)
      have h39 := hlt (by omega)
      have Sa1 : ∀ {H' : Hp}, Same H1 H' → SqL K H' a (xs.map V.int) := fun sm => .inl (.inl (sm _ _ ea1))
      refine ⟨.ref p, rfl, .inl ⟨rfl, _, .inl (.inl L.at_)⟩, .ref a, rfl, a, _, rfl, .inl (Sa1 L.bk.same), ?_⟩
      rw [List.length_map]
      refine ⟨_, rfl, by omega, by omega, fun D hD => lc_range (lo := 0) (n := _) (fun i H9 => ∃ (H2 : Hp) (rs2 : List (Addr × Row)), Same H1 H2 ∧ rs2.length = i ∧ LM K xs H2 H9 d c D rs2 (n + 200 + 40 * 1) ∧ H9 p = some (.lst (rowRefs rs)) ∧ H2 p = none) ?_ ?_ ?_⟩
      · obtain ⟨D1, D2, D3⟩ := L.bk.newL hD
        exact ⟨H1, [], Same.refl _, rfl, ⟨D3, D1, D2, upd_same, (fun _ h => nomatch h), (fun _ h => nomatch h), L.bk.junk D3 D1 D2⟩, by rw [upd_ne (ne_of_none L.at_ hD)]; exact L.at_, L.n1⟩
      · rintro i H9 hi ⟨H2, rs2, s2, hl2, L2, hp9, n2⟩
        have hpD : p ≠ D := ne_of_none L.at_ hD
        obtain ⟨x1, hx1m, ha1⟩ := atI_ints (xs := xs) (i := 0 + (i : Int) - 1) (by omega) (by omega)
        obtain ⟨x2, hx2m, ha2⟩ := atI_ints (xs := xs) (i := 0 + (i : Int)) (by omega) (by omega)
        have S9 : SqL K H9 a (xs.map V.int) := Sa1 (s2.trans L2.bk.same)
        refine ⟨rfl, ?_⟩
        unfold tYes
        refine iteT ?_
        refine ⟨.ref a, rfl, .int (0 + i), rfl, _, 1, rfl, rfl, a, _, _, .int x1, rfl, rfl, S9, ha1, .ref a, rfl, .int (0 + i), rfl, a, _, _, .int x2, rfl, rfl, S9, ha2, (show 3 ≤ sizeLine by decide), fun r hr' => ?_⟩
        obtain ⟨S, hat, L3⟩ := L2.row (x := (x1, "on", x2)) hr' ⟨⟨hxs x1 hx1m, .inr hx1m⟩, ⟨(show ("on" : Str).length ≤ 8 by decide +kernel), (show PyData.strOk "on" = true by decide +kernel)⟩, ⟨hxs x2 hx2m, .inr hx2m⟩⟩
        have pr : p ≠ r := ne_of_none hp9 hr'
        refine ⟨_, hat, by rw [rowRefs_len]; exact small1000 (by omega), _, _, s2.trans S, by rw [List.length_append, hl2]; rfl, L3, ?_, ?_⟩
        · rw [upd_ne hpD, upd_ne pr]; exact hp9
        · rw [upd_ne pr]; exact n2
      · rintro H9 ⟨H2, rs2, s2, hl2, L2, hp9, n2⟩
        have hl2' : rs2.length ≤ 30 := by omega
        refine ⟨p, D, _, _, rfl, rfl, hp9, L2.at_, by rw [rowRefs_len, rowRefs_len]; exact Nat.le_of_lt (small1000 (by omega)), ?_⟩
        refine ⟨H2, p, rs ++ rs2, _, _, _, _, _, rfl, s1.trans s2, s2 _ _ ea1, fun h => by omega, by rw [List.length_append]; omega, n2, L.pd, L.pc, by rw [upd_same, rowRefs_add], fun z hz => ?_, fun z hz => ?_, (L2.bk.junk n2 L.pd L.pc).mono (by omega)⟩
        · rcases List.mem_append.mp hz with h | h
          · exact sameT s2 (L.rows z h)
          · exact L2.rows z h
        · rcases List.mem_append.mp hz with h | h
          · exact L.good z h
          · exact L2.good z h
    -- way 3
    refine ⟨Mid K H0 d c a xs way n 3, ?_, fun σ H8 M3 => ?_⟩
    · obtain ⟨H1, p, rs, y4, y5, y6, y7, y8, rfl, s1, ea1, hlt, hle, L⟩ := M2
      refine ⟨.int way, rfl, rfl, _, rfl, ite2 (fun h1 => ?_) (fun h1 => ⟨H1, p, rs, y4, y5, y6, y7, y8, rfl, s1, ea1, fun h => hlt (by omega), hle, L.mono (by omega)⟩)⟩
      have hw : way = 3 := V.int.inj (of_decide_eq_true h1)
      have h39 := hlt (by omega)
      have Sa1 : ∀ {H' : Hp}, Same H1 H' → SqL K H' a (xs.map V.int) := fun sm => .inl (.inl (sm _ _ ea1))
      refine ⟨.ref p, rfl, .inl ⟨rfl, _, .inl (.inl L.at_)⟩, .ref a, rfl, a, _, rfl, .inl (Sa1 L.bk.same), _, 1, rfl, rfl, ?_⟩
      dsimp only
      rw [List.length_map]
      refine ⟨_, rfl, by omega, by omega, fun D hD => lc_range (lo := 0) (n := _) (fun i H9 => ∃ (H2 : Hp) (rs2 : List (Addr × Row)), Same H1 H2 ∧ rs2.length = i ∧ LM K xs H2 H9 d c D rs2 (n + 200 + 40 * 2) ∧ H9 p = some (.lst (rowRefs rs)) ∧ H2 p = none) ?_ ?_ ?_⟩
      · obtain ⟨D1, D2, D3⟩ := L.bk.newL hD
        exact ⟨H1, [], Same.refl _, rfl, ⟨D3, D1, D2, upd_same, (fun _ h => nomatch h), (fun _ h => nomatch h), L.bk.junk D3 D1 D2⟩, by rw [upd_ne (ne_of_none L.at_ hD)]; exact L.at_, L.n1⟩
      · rintro i H9 hi ⟨H2, rs2, s2, hl2, L2, hp9, n2⟩
        have hpD : p ≠ D := ne_of_none L.at_ hD
        obtain ⟨x1, hx1m, ha1⟩ := atI_ints (xs := xs) (i := 0 + (i : Int)) (by omega) (by omega)
        obtain ⟨x2, hx2m, ha2⟩ := atI_ints (xs := xs) (i := 0 + (i : Int) + 1) (by omega) (by omega)
        have S9 : SqL K H9 a (xs.map V.int) := Sa1 (s2.trans L2.bk.same)
        refine ⟨rfl, ?_⟩
        unfold tYes
        refine iteT ?_
        refine ⟨.ref a, rfl, .int (0 + i), rfl, a, _, _, .int x1, rfl, rfl, S9, ha1, .ref a, rfl, .int (0 + i), rfl, _, 1, rfl, rfl, a, _, _, .int x2, rfl, rfl, S9, ha2, (show 3 ≤ sizeLine by decide), fun r hr' => ?_⟩
        obtain ⟨S, hat, L3⟩ := L2.row (x := (x1, "on", x2)) hr' ⟨⟨hxs x1 hx1m, .inr hx1m⟩, ⟨(show ("on" : Str).length ≤ 8 by decide +kernel), (show PyData.strOk "on" = true by decide +kernel)⟩, ⟨hxs x2 hx2m, .inr hx2m⟩⟩
        have pr : p ≠ r := ne_of_none hp9 hr'
        refine ⟨_, hat, by rw [rowRefs_len]; exact small1000 (by omega), _, _, s2.trans S, by rw [List.length_append, hl2]; rfl, L3, ?_, ?_⟩
        · rw [upd_ne hpD, upd_ne pr]; exact hp9
        · rw [upd_ne pr]; exact n2
      · rintro H9 ⟨H2, rs2, s2, hl2, L2, hp9, n2⟩
        have hl2' : rs2.length ≤ 30 := by omega
        refine ⟨p, D, _, _, rfl, rfl, hp9, L2.at_, by rw [rowRefs_len, rowRefs_len]; exact Nat.le_of_lt (small1000 (by omega)), ?_⟩
        refine ⟨H2, p, rs ++ rs2, _, _, _, _, _, rfl, s1.trans s2, s2 _ _ ea1, fun h => by omega, by rw [List.length_append]; omega, n2, L.pd, L.pc, by rw [upd_same, rowRefs_add], fun z hz => ?_, fun z hz => ?_, (L2.bk.junk n2 L.pd L.pc).mono (by omega)⟩
        · rcases List.mem_append.mp hz with h | h
          · exact sameT s2 (L.rows z h)
          · exact L2.rows z h
        · rcases List.mem_append.mp hz with h | h
          · exact L.good z h
          · exact L2.good z h
    -- way 4
    refine ⟨Mid K H0 d c a xs way n 4, ?_, fun σ H8 M4 => ?_⟩
    · obtain ⟨H1, p, rs, y4, y5, y6, y7, y8, rfl, s1, ea1, hlt, hle, L⟩ := M3
      refine ⟨.int way, rfl, rfl, _, rfl, ite2 (fun h1 => ?_) (fun h1 => ⟨H1, p, rs, y4, y5, y6, y7, y8, rfl, s1, ea1, fun h => hlt (by omega), hle, L.mono (by omega)⟩)⟩
      have hw : way = 4 := V.int.inj (of_decide_eq_true h1)
      have h39 := hlt (by omega)
      obtain ⟨x1, hx1m, ha1⟩ := atI_ints (xs := xs) (i := -1) (by omega) (by omega)
      have S1 : SqL K H8 a (xs.map V.int) := .inl (.inl (L.bk.same _ _ ea1))
      refine ⟨.ref p, rfl, .inl ⟨rfl, _, .inl (.inl L.at_)⟩, .ref a, rfl, 1, rfl, a, _, -1, .int x1, rfl, rfl, S1, ha1, .ref a, rfl, 1, rfl, a, _, -1, .int x1, rfl, rfl, S1, ha1, (show 3 ≤ sizeLine by decide), fun r hr' => ?_⟩
      obtain ⟨S, hat, L3⟩ := L.row (x := (x1, "stay", x1)) hr' ⟨⟨hxs x1 hx1m, .inr hx1m⟩, ⟨(show ("stay" : Str).length ≤ 8 by decide +kernel), (show PyData.strOk "stay" = true by decide +kernel)⟩, ⟨hxs x1 hx1m, .inr hx1m⟩⟩
      refine ⟨p, _, .ref r, rfl, rfl, hat, by rw [rowRefs_len]; exact small1000 (by omega), ?_⟩
      exact ⟨_, p, _, _, _, _, _, _, rfl, s1.trans S, S _ _ ea1, fun h => by omega, by rw [List.length_append]; simp; omega, L3.mono (by omega)⟩
    -- way 5
    refine ⟨Mid K H0 d c a xs way n 5, ?_, fun σ H8 M5 => ?_⟩
    · obtain ⟨H1, p, rs, y4, y5, y6, y7, y8, rfl, s1, ea1, hlt, hle, L⟩ := M4
      refine ⟨.int way, rfl, rfl, _, rfl, ite2 (fun h1 => ?_) (fun h1 => ⟨H1, p, rs, y4, y5, y6, y7, y8, rfl, s1, ea1, fun h => hlt (by omega), hle, L.mono (by omega)⟩)⟩
      have hw : way = 5 := V.int.inj (of_decide_eq_true h1)
      have h39 := hlt (by omega)
      refine ⟨.ref p, rfl, p, rfl, ⟨_, .inl (.inl L.at_)⟩, fun D hD => lc_list (K := K) (a := p) (xs := rowRefs rs) (fun i H9 => ∃ (H2 : Hp) (rs2 : List (Addr × Row)), Same H1 H2 ∧ rs2.length = i ∧ LM K xs H2 H9 d c D rs2 (n + 200 + 40 * 4) ∧ H9 p = some (.lst (rowRefs rs))) ?_ (fun i H9 _ ⟨_, _, _, _, _, e⟩ => .inl (.inl e)) ?_ ?_⟩
      · obtain ⟨D1, D2, D3⟩ := L.bk.newL hD
        exact ⟨H1, [], Same.refl _, rfl, ⟨D3, D1, D2, upd_same, (fun _ h => nomatch h), (fun _ h => nomatch h), L.bk.junk D3 D1 D2⟩, by rw [upd_ne (ne_of_none L.at_ hD)]; exact L.at_⟩
      · rintro i x H9 hi ⟨H2, rs2, s2, hl2, L2, hp9⟩
        have hpD : p ≠ D := ne_of_none L.at_ hD
        have hil : i < rs.length := by
          have := (List.getElem?_eq_some_iff.mp hi).1
          rwa [rowRefs_len] at this
        have hx : x = .ref (rs[i]).1 := by
          unfold rowRefs at hi
          rw [List.getElem?_map, List.getElem?_eq_getElem hil] at hi
          exact (Option.some.inj hi).symm
        subst hx
        have hq0 : rs[i] ∈ rs := List.getElem_mem hil
        generalize rs[i] = q0 at hq0 ⊢
        refine ⟨q0.1, rowV q0.2, rfl, sameT (s2.trans L2.bk.same) (L.rows q0 hq0), rfl, _, _, rfl, _, _, rfl, _, _, rfl, rfl, rfl, ?_⟩
        unfold tYes
        refine iteT ?_
        refine ⟨.int q0.2.1, rfl, .str q0.2.2.1, rfl, 1, rfl, (show 3 ≤ sizeLine by decide), fun r hr' => ?_⟩
        obtain ⟨S, hat, L3⟩ := L2.row (x := (q0.2.1, q0.2.2.1, -1)) hr' ⟨(L.good q0 hq0).1, (L.good q0 hq0).2.1, (show InM xs (-1) from ⟨⟨by decide, by decide⟩, .inl rfl⟩)⟩
        have pr : p ≠ r := ne_of_none hp9 hr'
        refine ⟨_, hat, by rw [rowRefs_len]; exact small1000 (by omega), _, _, s2.trans S, by rw [List.length_append, hl2]; rfl, L3, ?_⟩
        rw [upd_ne hpD, upd_ne pr]
        exact hp9
      · rintro H9 ⟨H2, rs2, s2, hl2, L2, hp9⟩
        rw [rowRefs_len] at hl2
        exact ⟨H2, D, rs2, _, _, _, _, _, rfl, s1.trans s2, s2 _ _ ea1, fun h => by omega, by omega, L2.mono (by omega)⟩
    -- way 6
    refine ⟨Mid K H0 d c a xs way n 6, ?_, fun σ H8 M6 => ?_⟩
    · obtain ⟨H1, p, rs, y4, y5, y6, y7, y8, rfl, s1, ea1, hlt, hle, L⟩ := M5
      refine ⟨.int way, rfl, rfl, _, rfl, ite2 (fun h1 => ?_) (fun h1 => ⟨H1, p, rs, y4, y5, y6, y7, y8, rfl, s1, ea1, fun h => hlt (by omega), hle, L.mono (by omega)⟩)⟩
      have hw : way = 6 := V.int.inj (of_decide_eq_true h1)
      refine ⟨.ref d, rfl, _, d, c, _, 12, rfl, L.bk, by decide, by decide, by omega, fun k H9 k0 k1 B9 => ⟨k, rfl, by omega, by omega, fun D hD => lc_range (lo := 0) (n := _) (fun i H9 => ∃ (H2 : Hp) (rs2 : List (Addr × Row)), Same H1 H2 ∧ rs2.length = i ∧ LM K xs H2 H9 d c D rs2 (n + 200 + 40 * 5 + 1 + 2 * i)) ?_ ?_ ?_⟩⟩
      · obtain ⟨D1, D2, D3⟩ := B9.newL hD
        exact ⟨H1, [], Same.refl _, rfl, ⟨D3, D1, D2, upd_same, (fun _ h => nomatch h), (fun _ h => nomatch h), B9.junk D3 D1 D2⟩⟩
      · rintro i H10 hi ⟨H2, rs2, s2, hl2, L2⟩
        have ea2 : H2 a = some (.lst (xs.map V.int)) := s2 _ _ ea1
        have aD : a ≠ D := ne_of_none ea2 L2.n1
        refine ⟨rfl, ?_⟩
        unfold tYes
        refine iteT ?_
        refine ⟨.ref d, rfl, .ref a, rfl, _, d, c, a, _, xs.map V.int, rfl, L2.bk.keep L2.at_ L2.pd L2.pc, .inl (.inl (.inl (by rw [upd_ne aD]; exact ea2))), by rw [List.length_map]; exact hx1, by rw [List.length_map]; omega, by omega, fun v H11 hv B11 => ?_⟩
        obtain ⟨x1, hx1m, rfl⟩ := List.mem_map.mp hv
        have ea11 : H11 a = some (.lst (xs.map V.int)) := B11.same _ _ (by rw [upd_ne aD]; exact ea2)
        refine ⟨.ref d, rfl, .ref a, rfl, 1, rfl, (show 1 ≤ sizeLine by decide), fun l hl' => ⟨l, 9, _, rfl, rfl, upd_same, by decide, by decide, (by decide), fun l2 hl2' => ?_⟩⟩
        obtain ⟨u1, u2, u3⟩ := B11.newL hl'
        have B12 := B11.junk (o := .lst [.int (-1)]) u3 u1 u2
        obtain ⟨v1, v2, v3⟩ := B12.newL hl2'
        have B13 := B12.junk (o := .lst (List.replicate (9 : Int).toNat [V.int (-1)]).flatten) v3 v1 v2
        have al : a ≠ l := ne_of_none ea11 hl'
        have al2 : a ≠ l2 := fun e => by rw [← e, upd_ne al, ea11] at hl2'; cases hl2'
        refine ⟨a, l2, _, _, rfl, rfl, (by rw [upd_ne al2, upd_ne al]; exact ea11), upd_same, ?_, fun l3 hl3 => ?_⟩
        · have h9 : (List.replicate (9 : Int).toNat [V.int (-1)]).flatten.length = 9 := by decide
          rw [h9, List.length_map]
          exact Nat.le_of_lt (small1000 (by omega))
        obtain ⟨w1, w2, w3⟩ := B13.newL hl3
        have B14 := (B13.junk (o := .lst (xs.map V.int ++ (List.replicate (9 : Int).toNat [V.int (-1)]).flatten)) w3 w1 w2).keep upd_same w1 w2
        have h9 : (xs.map V.int ++ (List.replicate (9 : Int).toNat [V.int (-1)]).flatten).length = xs.length + 9 := by
          rw [List.length_append, List.length_map]
          rfl
        refine ⟨_, d, c, l3, _, _, rfl, B14, .inl (.inl (.inl upd_same)), by rw [h9]; omega, by rw [h9]; omega, by omega, fun v2 H15 hv2 B15 => ?_⟩
        obtain ⟨x2, rfl, hx2s⟩ : ∃ x2 : Int, v2 = .int x2 ∧ InM xs x2 := by
          rcases List.mem_append.mp hv2 with h | h
          · obtain ⟨z, hz, rfl⟩ := List.mem_map.mp h
            exact ⟨z, rfl, hxs z hz, .inr hz⟩
          · have h' : v2 ∈ [V.int (-1), .int (-1), .int (-1), .int (-1), .int (-1), .int (-1), .int (-1), .int (-1), .int (-1)] := h
            simp at h'
            exact ⟨-1, h', ⟨⟨by decide, by decide⟩, .inl rfl⟩⟩
        have B16 := B15.less (same_upd w3)
        have L16 : LM K xs H2 H15 d c D rs2 (n + 200 + 40 * 5 + 1 + 2 * i + 1 + 1) := ⟨L2.n1, L2.pd, L2.pc, B16.same D _ upd_same, L2.rows, L2.good, B16.less (same_upd L2.n1)⟩
        refine ⟨(show 3 ≤ sizeLine by decide), fun r hr' => ?_⟩
        obtain ⟨S, hat, L3⟩ := L16.row (x := (x1, "a", x2)) hr' ⟨⟨hxs x1 hx1m, .inr hx1m⟩, ⟨(show ("a" : Str).length ≤ 8 by decide +kernel), (show PyData.strOk "a" = true by decide +kernel)⟩, hx2s⟩
        refine ⟨_, hat, by rw [rowRefs_len]; exact small1000 (by omega), _, _, s2.trans S, by rw [List.length_append, hl2]; rfl, L3.mono (by omega)⟩
      · rintro H10 ⟨H2, rs2, s2, hl2, L2⟩
        exact ⟨H2, D, rs2, _, _, _, _, _, rfl, s1.trans s2, s2 _ _ ea1, fun h => by omega, by omega, L2.mono (by omega)⟩
    obtain ⟨H9, p9, rs9, y4, y5, y6, y7, y8, rfl, s9, _, _, hl9, L9⟩ := M6
    refine ⟨.ref d, rfl, .ref p9, rfl, _, d, c, p9, _, rs9, rfl, L9.bk.keep L9.at_ L9.pd L9.pc, .inl (.inl upd_same), L9.rows.mono (same_upd L9.n1), by omega, (fun x hx => (L9.good x hx).2.1), by omega, fun t rs' H10 H11 hmem hl' s10 ht hr' B11 => ?_⟩
    refine q t rs' xs H10 H11 (by omega) hl' (fun z hz => ?_) (s9.trans ((same_upd L9.n1).trans s10)) ht hr' (B11.mono (by omega))
    obtain ⟨z0, h0, e0⟩ := List.mem_map.mp ((hmem z.2).mp (List.mem_map.mpr ⟨z, hz, rfl⟩))
    rw [← e0]
    exact L9.good z0 h0
end
end K24

/-! Cycles in a list of edges: by taking away what leads nowhere, and by leads that are doubled. Plain Lean. -/
namespace K24m
abbrev Edges := List (Int × Int)
inductive Path (E : Edges) : Int → Int → Prop
  | one {x y : Int} : (x, y) ∈ E → Path E x y
  | cons {x y z : Int} : (x, y) ∈ E → Path E y z → Path E x z
theorem Path.trans {E : Edges} {x y z : Int} (h : Path E x y) (k : Path E y z) : Path E x z := by
  induction h with
  | one e => exact .cons e k
  | cons e _ ih => exact .cons e (ih k)
def Cyc (E : Edges) : Prop := ∃ x, Path E x x

/-! ### a finite set in which everybody has a successor -/
inductive Tr (R : Int → Int → Prop) : Int → Int → Prop
  | one {x y : Int} : R x y → Tr R x y
  | cons {x y z : Int} : R x y → Tr R y z → Tr R x z
theorem Tr.trans {R : Int → Int → Prop} {x y z : Int} (h : Tr R x y) (k : Tr R y z) : Tr R x z := by
  induction h with
  | one e => exact .cons e k
  | cons e _ ih => exact .cons e (ih k)
theorem Tr.map {R S : Int → Int → Prop} {x y : Int} (h : Tr R x y) (k : ∀ a b, R a b → Tr S a b) : Tr S x y := by
  induction h with
  | one e => exact k _ _ e
  | cons e _ ih => exact (k _ _ e).trans ih
theorem round_of : ∀ (n : Nat) (l : List Int) (R : Int → Int → Prop), l.length ≤ n → l ≠ [] → (∀ x ∈ l, ∃ y ∈ l, R x y) → ∃ x, Tr R x x
  | 0, l, R, hn, hne, _ => absurd (List.eq_nil_of_length_eq_zero (Nat.le_zero.mp hn)) hne
  | n + 1, l, R, hn, hne, h => by
    obtain ⟨x, hx⟩ := List.exists_mem_of_ne_nil l hne
    by_cases hc : R x x
    · exact ⟨x, .one hc⟩
    obtain ⟨u, hu, hxu⟩ := h x hx
    have hux : u ≠ x := fun e => hc (e ▸ hxu)
    have hu' : u ∈ l.filter (fun y => decide (y ≠ x)) := List.mem_filter.mpr ⟨hu, decide_eq_true hux⟩
    have hlen : (l.filter (fun y => decide (y ≠ x))).length < l.length := by
      have h1 := List.length_filter_le (fun y => decide (y ≠ x)) l
      rcases Nat.lt_or_ge (l.filter (fun y => decide (y ≠ x))).length l.length with z | z
      · exact z
      · have e : (l.filter (fun y => decide (y ≠ x))).length = l.length := Nat.le_antisymm h1 z
        have := (List.length_filter_eq_length_iff.mp e) x hx
        simp at this
    obtain ⟨y, hy⟩ := round_of n (l.filter fun y => decide (y ≠ x)) (fun a b => R a b ∨ (R a x ∧ R x b)) (by omega) (fun e => by rw [e] at hu'; cases hu') (fun a ha => by
      have ha1 := (List.mem_filter.mp ha).1
      obtain ⟨b, hb, hab⟩ := h a ha1
      by_cases hbx : b = x
      · exact ⟨u, hu', .inr ⟨hbx ▸ hab, hxu⟩⟩
      · exact ⟨b, List.mem_filter.mpr ⟨hb, decide_eq_true hbx⟩, .inl hab⟩)
    refine ⟨y, hy.map fun a b hab => ?_⟩
    rcases hab with hab | ⟨h1, h2⟩
    · exact .one hab
    · exact .cons h1 (.one h2)

/-! ### counting -/
/-- the edges of s that lead to none of P -/
def cnt (E : Edges) (P : List Int) (s : Int) : Nat := (E.filter fun e => decide (e.1 = s ∧ e.2 ∉ P)).length
/-- the sources of the edges that lead to h, in their order -/
def befs (E : Edges) (h : Int) : List Int := (E.filter fun e => decide (e.2 = h)).map (·.1)
theorem cnt_zero {E : Edges} {P : List Int} {s : Int} : cnt E P s = 0 ↔ ∀ t, (s, t) ∈ E → t ∈ P := by
  unfold cnt
  rw [List.length_eq_zero_iff, List.filter_eq_nil_iff]
  constructor
  · intro h t ht
    have := h (s, t) ht
    simp at this
    exact this
  · rintro h ⟨a, b⟩ hab
    simp
    rintro rfl
    exact h b hab
theorem cnt_snoc {P : List Int} {h s : Int} (hp : h ∉ P) : ∀ E : Edges, cnt E (P ++ [h]) s + (befs E h).count s = cnt E P s
  | [] => rfl
  | (a, b) :: E => by
    have ih := cnt_snoc hp E (s := s)
    unfold cnt befs at ih ⊢
    by_cases ha : a = s
    · by_cases hb : b = h
      · subst ha hb
        simp [List.filter_cons, hp]
        simp at ih
        omega
      · by_cases hbp : b ∈ P
        · simp [List.filter_cons, ha, hb, hbp]
          simpa using ih
        · simp [List.filter_cons, ha, hb, hbp]
          simp at ih
          omega
    · by_cases hb : b = h
      · subst hb
        have : ¬ a = s := ha
        simp [List.filter_cons, ha, List.count_cons]
        simpa using ih
      · simp [List.filter_cons, ha, hb]
        simpa using ih
theorem mem_befs {E : Edges} {h s : Int} : s ∈ befs E h ↔ (s, h) ∈ E := by
  unfold befs
  rw [List.mem_map]
  constructor
  · rintro ⟨⟨a, b⟩, hm, rfl⟩
    have := List.mem_filter.mp hm
    simp at this
    rw [← this.2]
    exact this.1
  · intro hm
    exact ⟨(s, h), List.mem_filter.mpr ⟨hm, by simp⟩, rfl⟩

/-! ### taking away -/
/-- P is taken away, W waits for it -/
structure Kahn (E : Edges) (P W : List Int) : Prop where
  nd : (P ++ W).Nodup
  safe : ∀ P1 x P2, P = P1 ++ x :: P2 → ∀ t, (x, t) ∈ E → t ∈ P1
  wait : ∀ x ∈ W, ∀ t, (x, t) ∈ E → t ∈ P
  all : ∀ y, ((∃ s, (s, y) ∈ E) ∨ ∃ t, (y, t) ∈ E) → (∀ t, (y, t) ∈ E → t ∈ P) → y ∈ P ++ W
  tgt : ∀ x ∈ P ++ W, (∃ s, (s, x) ∈ E) ∨ ∃ t, (x, t) ∈ E
theorem Kahn.here {E : Edges} {P W : List Int} {h : Int} (k : Kahn E P (W ++ [h])) : h ∉ P := by
  have nd := k.nd
  rw [← List.append_assoc] at nd
  intro hp
  have := (List.nodup_append.mp nd).2.2 h (List.mem_append_left _ hp) h (List.mem_singleton.mpr rfl)
  exact this rfl
/-- what is behind the last one -/
theorem Kahn.step {E : Edges} {P W Z : List Int} {h : Int} (k : Kahn E P (W ++ [h])) (zn : Z.Nodup) (zm : ∀ z, z ∈ Z ↔ z ∈ befs E h ∧ cnt E P z = (befs E h).count z) : Kahn E (P ++ [h]) (W ++ Z) := by
  have hp := k.here
  have nd := k.nd
  have nd2 : (P ++ [h] ++ W).Nodup := by
    have e : (P ++ (W ++ [h])).Perm (P ++ [h] ++ W) := by
      rw [List.append_assoc]
      exact List.Perm.append_left P List.perm_append_comm
    exact e.nodup_iff.mp nd
  refine ⟨?_, ?_, ?_, ?_, ?_⟩
  · rw [← List.append_assoc]
    refine List.nodup_append.mpr ⟨nd2, zn, fun a ha b hb e => ?_⟩
    subst e
    have hb' := (zm a).mp hb
    have hm := mem_befs.mp hb'.1
    rcases List.mem_append.mp ha with h1 | h1
    · rcases List.mem_append.mp h1 with h2 | h2
      · obtain ⟨P1, P2, e⟩ := List.append_of_mem h2
        have := k.safe P1 a P2 e h hm
        exact hp (by rw [e]; exact List.mem_append_left _ this)
      · rw [List.mem_singleton] at h2
        subst h2
        exact hp (k.wait a (List.mem_append_right _ (List.mem_singleton.mpr rfl)) a hm)
    · exact hp (k.wait a (List.mem_append_left _ h1) h hm)
  · intro P1 x P2 e t ht
    rcases List.eq_nil_or_concat P2 with rfl | ⟨P3, y, rfl⟩
    · have e1 := List.append_inj' e rfl
      rw [← e1.1]
      have : h = x := by simpa using e1.2
      subst this
      exact k.wait h (List.mem_append_right _ (List.mem_singleton.mpr rfl)) t ht
    · have e' : P ++ [h] = (P1 ++ x :: P3) ++ [y] := by rw [e]; simp
      have e1 := List.append_inj' e' rfl
      exact k.safe P1 x P3 e1.1 t ht
  · intro x hx t ht
    rcases List.mem_append.mp hx with h1 | h1
    · exact List.mem_append_left _ (k.wait x (List.mem_append_left _ h1) t ht)
    · have z := (zm x).mp h1
      have c := cnt_snoc hp E (s := x)
      have c0 : cnt E (P ++ [h]) x = 0 := by omega
      exact cnt_zero.mp c0 t ht
  · intro y hy hall
    by_cases hq : ∀ t, (y, t) ∈ E → t ∈ P
    · have := k.all y hy hq
      rw [← List.append_assoc] at this ⊢
      rcases List.mem_append.mp this with h1 | h1
      · refine List.mem_append_left _ ?_
        rcases List.mem_append.mp h1 with h2 | h2
        · exact List.mem_append_left _ (List.mem_append_left _ h2)
        · exact List.mem_append_right _ h2
      · exact List.mem_append_left _ (List.mem_append_left _ (List.mem_append_right _ h1))
    · have c0 : cnt E (P ++ [h]) y = 0 := cnt_zero.mpr hall
      have c := cnt_snoc hp E (s := y)
      have hne : cnt E P y ≠ 0 := fun e => hq (cnt_zero.mp e)
      have hpos : 0 < (befs E h).count y := by omega
      refine List.mem_append_right _ (List.mem_append_right _ ((zm y).mpr ⟨List.count_pos_iff.mp hpos, by omega⟩))
  · intro x hx
    rcases List.mem_append.mp hx with h1 | h1
    · rcases List.mem_append.mp h1 with h2 | h2
      · exact k.tgt x (List.mem_append_left _ h2)
      · exact k.tgt x (List.mem_append_right _ (List.mem_append_right _ h2))
    · rcases List.mem_append.mp h1 with h2 | h2
      · exact k.tgt x (List.mem_append_right _ (List.mem_append_left _ h2))
      · exact .inr ⟨h, mem_befs.mp ((zm x).mp h2).1⟩
theorem safe_no {E : Edges} : ∀ (n : Nat) (P : List Int), P.length = n → (∀ P1 x P2, P = P1 ++ x :: P2 → ∀ t, (x, t) ∈ E → t ∈ P1) → ∀ x ∈ P, ¬ Path E x x
  | 0, P, hn, _, x, hx => by rw [List.eq_nil_of_length_eq_zero hn] at hx; cases hx
  | n + 1, P, hn, hs, x, hx => by
    rcases List.eq_nil_or_concat P with rfl | ⟨Q, h, rfl⟩
    · cases hx
    simp only [List.concat_eq_append] at hn hs hx
    have hs' : ∀ P1 x P2, Q = P1 ++ x :: P2 → ∀ t, (x, t) ∈ E → t ∈ P1 := fun P1 x P2 e t ht => hs P1 x (P2 ++ [h]) (by rw [e]; simp) t ht
    have hQ : Q.length = n := by simpa using hn
    have ih := safe_no n Q hQ hs'
    have closed : ∀ a ∈ Q, ∀ t, (a, t) ∈ E → t ∈ Q := fun a ha t ht => by
      obtain ⟨P1, P2, e⟩ := List.append_of_mem ha
      rw [e]
      exact List.mem_append_left _ (hs' P1 a P2 e t ht)
    have stays : ∀ a b, Path E a b → a ∈ Q → b ∈ Q := by
      intro a b hab
      induction hab with
      | one e => exact fun ha => closed _ ha _ e
      | cons e _ ih2 => exact fun ha => ih2 (closed _ ha _ e)
    intro hp
    by_cases hxQ : x ∈ Q
    · exact ih x hxQ hp
    have hxh : x = h := by
      rcases List.mem_append.mp hx with z | z
      · exact absurd z hxQ
      · exact List.mem_singleton.mp z
    subst hxh
    have first : ∀ t, (x, t) ∈ E → t ∈ Q := hs Q x [] rfl
    cases hp with
    | one e => exact hxQ (first _ e)
    | cons e p => exact hxQ (stays _ _ p (first _ e))
/-- at the end, nobody waiting -/
theorem Kahn.fin {E : Edges} {P : List Int} (k : Kahn E P []) : (∃ s, cnt E P s ≠ 0) ↔ Cyc E := by
  constructor
  · rintro ⟨s, hs⟩
    have hn : ∀ y, ((∃ s, (s, y) ∈ E) ∨ ∃ t, (y, t) ∈ E) → y ∉ P → ∃ t, (y, t) ∈ E ∧ t ∉ P := fun y hy hyP => by
      refine Classical.byContradiction fun no => hyP ?_
      have := k.all y hy fun t ht => Classical.byContradiction fun z => no ⟨t, ht, z⟩
      simpa using this
    have h1 : ∃ t, (s, t) ∈ E ∧ t ∉ P := Classical.byContradiction fun no => hs (cnt_zero.mpr fun t ht => Classical.byContradiction fun z => no ⟨t, ht, z⟩)
    obtain ⟨t0, e0, h0⟩ := h1
    obtain ⟨x, hx⟩ := round_of _ ((E.map (·.2)).filter fun y => decide (y ∉ P)) (fun a b => (a, b) ∈ E) (Nat.le_refl _) (fun e => by
      have : t0 ∈ (E.map (·.2)).filter fun y => decide (y ∉ P) := List.mem_filter.mpr ⟨List.mem_map.mpr ⟨(s, t0), e0, rfl⟩, decide_eq_true h0⟩
      rw [e] at this
      cases this) (fun a ha => by
      have ha' := List.mem_filter.mp ha
      obtain ⟨⟨q, a'⟩, hq, rfl⟩ := List.mem_map.mp ha'.1
      obtain ⟨t, ht, htP⟩ := hn a' (.inl ⟨q, hq⟩) (of_decide_eq_true ha'.2)
      exact ⟨t, List.mem_filter.mpr ⟨List.mem_map.mpr ⟨(a', t), ht, rfl⟩, decide_eq_true htP⟩, ht⟩)
    have conv : ∀ a b, Tr (fun a b => (a, b) ∈ E) a b → Path E a b := by
      intro a b h
      induction h with
      | one e => exact .one e
      | cons e _ ih => exact .cons e ih
    exact ⟨x, conv _ _ hx⟩
  · rintro ⟨x, hx⟩
    refine Classical.byContradiction fun no => ?_
    have all0 : ∀ s t, (s, t) ∈ E → t ∈ P := fun s t ht => cnt_zero.mp (Classical.byContradiction fun z => no ⟨s, z⟩) t ht
    have hxP : x ∈ P := by
      have last : ∀ a b, Path E a b → b ∈ P := by
        intro a b h
        induction h with
        | one e => exact all0 _ _ e
        | cons _ _ ih => exact ih
      exact last _ _ hx
    exact safe_no _ P rfl k.safe x hxP hx
/-- at the beginning -/
theorem Kahn.init {E : Edges} {W : List Int} (nd : W.Nodup) (hm : ∀ y, y ∈ W ↔ (∃ s, (s, y) ∈ E) ∧ ∀ t, (y, t) ∉ E) : Kahn E [] W := by
  refine ⟨by simpa using nd, fun P1 x P2 e => ?_, fun x hx t ht => absurd ht (((hm x).mp hx).2 t), fun y hy hall => ?_, fun x hx => ?_⟩
  · have := congrArg List.length e
    simp at this
  · have no : ∀ t, (y, t) ∉ E := fun t ht => by simpa using hall t ht
    rcases hy with ⟨s, hs⟩ | ⟨t, ht⟩
    · simpa using (hm y).mpr ⟨⟨s, hs⟩, no⟩
    · exact absurd ht (no t)
  · exact .inl ((hm x).mp (by simpa using hx)).1

/-! ### leads, doubled -/
/-- a key's leads -/
structure Leads (E : Edges) (ks : List Int) (L : Int → List Int) : Prop where
  keys : ∀ s, s ∈ ks ↔ ∃ t, (s, t) ∈ E
  nd : ∀ s ∈ ks, (L s).Nodup
  base : ∀ s t, (s, t) ∈ E → t ∈ L s
  sound : ∀ s ∈ ks, ∀ t ∈ L s, Path E s t
/-- one doubling -/
structure Next (ks : List Int) (L L' : Int → List Int) : Prop where
  nd : ∀ s ∈ ks, (L' s).Nodup
  mem : ∀ s ∈ ks, ∀ t, t ∈ L' s ↔ t ∈ L s ∨ ∃ m ∈ L s, m ∈ ks ∧ t ∈ L m
theorem Leads.next {E : Edges} {ks : List Int} {L L' : Int → List Int} (l : Leads E ks L) (n : Next ks L L') : Leads E ks L' := by
  refine ⟨l.keys, n.nd, fun s t ht => (n.mem s ((l.keys s).mpr ⟨t, ht⟩) t).mpr (.inl (l.base s t ht)), fun s hs t ht => ?_⟩
  rcases (n.mem s hs t).mp ht with h | ⟨m, hm, hmk, hmt⟩
  · exact l.sound s hs t h
  · exact (l.sound s hs m hm).trans (l.sound m hmk t hmt)
theorem nodup_le {l m : List Int} (nd : l.Nodup) (h : ∀ x ∈ l, x ∈ m) : l.length ≤ m.length := by
  induction l generalizing m with
  | nil => exact Nat.zero_le _
  | cons x l ih =>
    have hx := h x List.mem_cons_self
    obtain ⟨m1, m2, rfl⟩ := List.append_of_mem hx
    have nd' := List.nodup_cons.mp nd
    have := ih (m := m1 ++ m2) nd'.2 fun y hy => by
      have hy' := h y (List.mem_cons_of_mem _ hy)
      rcases List.mem_append.mp hy' with z | z
      · exact List.mem_append_left _ z
      · rcases List.mem_cons.mp z with rfl | z
        · exact absurd hy nd'.1
        · exact List.mem_append_right _ z
    simp at this ⊢
    omega
theorem nodup_eq {l m : List Int} (nd : l.Nodup) (nm : m.Nodup) (h : ∀ x ∈ l, x ∈ m) (he : m.length ≤ l.length) : ∀ x ∈ m, x ∈ l := by
  intro x hx
  refine Classical.byContradiction fun no => ?_
  have := nodup_le (l := x :: l) (m := m) (List.nodup_cons.mpr ⟨no, nd⟩) fun y hy => by
    rcases List.mem_cons.mp hy with rfl | hy
    · exact hx
    · exact h y hy
  simp at this
  omega
def total (ks : List Int) (L : Int → List Int) : Nat := (ks.map fun s => (L s).length).sum
theorem total_le {ks : List Int} {L L' : Int → List Int} (h : ∀ s ∈ ks, (L s).length ≤ (L' s).length) : total ks L ≤ total ks L' := by
  unfold total
  induction ks with
  | nil => exact Nat.le_refl _
  | cons s ks ih =>
    rw [List.map_cons, List.map_cons, List.sum_cons, List.sum_cons]
    have := ih fun x hx => h x (List.mem_cons_of_mem _ hx)
    have := h s List.mem_cons_self
    omega
theorem total_eq {ks : List Int} {L L' : Int → List Int} (h : ∀ s ∈ ks, (L s).length ≤ (L' s).length) (e : total ks L = total ks L') : ∀ s ∈ ks, (L' s).length ≤ (L s).length := by
  unfold total at e
  induction ks with
  | nil => exact fun s hs => (nomatch hs)
  | cons s ks ih =>
    rw [List.map_cons, List.map_cons, List.sum_cons, List.sum_cons] at e
    have h1 := h s List.mem_cons_self
    have h2 : total ks L ≤ total ks L' := total_le fun x hx => h x (List.mem_cons_of_mem _ hx)
    unfold total at h2
    intro x hx
    rcases List.mem_cons.mp hx with rfl | hx
    · omega
    · exact ih (fun x hx => h x (List.mem_cons_of_mem _ hx)) (by omega) x hx
theorem Next.up {E : Edges} {ks : List Int} {L L' : Int → List Int} (l : Leads E ks L) (n : Next ks L L') : ∀ s ∈ ks, (L s).length ≤ (L' s).length := fun s hs =>
  nodup_le (l.nd s hs) fun t ht => (n.mem s hs t).mpr (.inl ht)
theorem path_tgt {E : Edges} {s t : Int} (h : Path E s t) : t ∈ E.map (·.2) := by
  induction h with
  | @one a b e => exact List.mem_map.mpr ⟨(a, b), e, rfl⟩
  | cons _ _ ih => exact ih
theorem total_bound {E : Edges} {ks : List Int} {L : Int → List Int} (l : Leads E ks L) : total ks L ≤ ks.length * E.length := by
  have h : ∀ s ∈ ks, (L s).length ≤ E.length := fun s hs => by
    have := nodup_le (l.nd s hs) fun t ht => path_tgt (l.sound s hs t ht)
    simpa using this
  unfold total
  clear l
  induction ks with
  | nil => simp
  | cons s ks ih =>
    rw [List.map_cons, List.sum_cons, List.length_cons, Nat.succ_mul]
    have := ih fun x hx => h x (List.mem_cons_of_mem _ hx)
    have := h s List.mem_cons_self
    omega
/-- when nothing is new -/
theorem Leads.fin {E : Edges} {ks : List Int} {L L' : Int → List Int} (l : Leads E ks L) (n : Next ks L L') (e : total ks L = total ks L') : (∃ s ∈ ks, s ∈ L' s) ↔ Cyc E := by
  have l' := l.next n
  constructor
  · rintro ⟨s, hs, h⟩
    exact ⟨s, l'.sound s hs s h⟩
  · have back : ∀ s ∈ ks, ∀ t ∈ L' s, t ∈ L s := fun s hs => nodup_eq (l.nd s hs) (n.nd s hs) (fun t ht => (n.mem s hs t).mpr (.inl ht)) (total_eq (Next.up l n) e s hs)
    have allp : ∀ s t, Path E s t → t ∈ L s := by
      intro s t h
      induction h with
      | one e => exact l.base _ _ e
      | @cons s m t hm p ih =>
        have hs : s ∈ ks := (l.keys s).mpr ⟨m, hm⟩
        have hmk : m ∈ ks := by
          cases p with
          | one e => exact (l.keys m).mpr ⟨_, e⟩
          | cons e _ => exact (l.keys m).mpr ⟨_, e⟩
        exact back s hs t ((n.mem s hs t).mpr (.inr ⟨m, l.base _ _ hm, hmk, ih⟩))
    rintro ⟨x, hx⟩
    have hk : x ∈ ks := by
      cases hx with
      | one e => exact (l.keys x).mpr ⟨_, e⟩
      | cons e _ => exact (l.keys x).mpr ⟨_, e⟩
    exact ⟨x, hk, (n.mem x hk x).mpr (.inl (allp x x hx))⟩
/-- cycles hang on the edges as a set alone -/
theorem Cyc.congr {E F : Edges} (h : ∀ e, e ∈ E ↔ e ∈ F) : Cyc E ↔ Cyc F := by
  have go : ∀ {E F : Edges}, (∀ e, e ∈ E → e ∈ F) → ∀ x y, Path E x y → Path F x y := by
    intro E F h x y p
    induction p with
    | one e => exact .one (h _ e)
    | cons e _ ih => exact .cons (h _ e) ih
  exact ⟨fun ⟨x, hx⟩ => ⟨x, go (fun e => (h e).mp) x x hx⟩, fun ⟨x, hx⟩ => ⟨x, go (fun e => (h e).mpr) x x hx⟩⟩
end K24m

/-! Dicts with int keys as functions; a dict comprehension over any walk; d != {}. -/
namespace LB
open PySem PySem.Spec PyProof.Rows L2 KS GL
/-- a dict of int keys is the function f -/
structure DM (kvs : List (Key × V)) (f : Int → Option V) : Prop where
  val : ∀ s, valV kvs (Sum.inl s : Key) = f s
  nd : (kvs.map (·.1)).Nodup
  isI : ∀ p ∈ kvs, ∃ s : Int, p.1 = Sum.inl s
theorem DM.nil : DM [] (fun _ => none) := ⟨fun _ => rfl, List.nodup_nil, fun _ h => (nomatch h)⟩
theorem keys_putK {kvs : List (Key × V)} {k : Key} {v x : V} (h : valV kvs k = some x) : (putK kvs k v).map (·.1) = kvs.map (·.1) := by
  unfold putK
  rw [valV_any, h, if_pos (show (some x).isSome = true from rfl), List.map_map]
  refine List.map_congr_left fun p _ => ?_
  show (if p.1 = k then (p.1, v) else p).1 = p.1
  split <;> rfl
theorem DM.put {kvs : List (Key × V)} {f : Int → Option V} (d : DM kvs f) (s : Int) (v : V) : DM (putK kvs (Sum.inl s : Key) v) (fun x => if x = s then some v else f x) := by
  refine ⟨fun x => ?_, ?_, fun p hp => ?_⟩
  · rw [valV_put, d.val x]
    by_cases h : x = s
    · rw [if_pos (by rw [h]), if_pos h]
    · rw [if_neg (fun e => h (Sum.inl.inj e)), if_neg h]
  · cases e : valV kvs (Sum.inl s : Key) with
    | none => exact nd_putK v d.nd e
    | some x => rw [keys_putK e]; exact d.nd
  · have hk : p.1 ∈ (putK kvs (Sum.inl s : Key) v).map (·.1) := List.mem_map.mpr ⟨p, hp, rfl⟩
    cases e : valV kvs (Sum.inl s : Key) with
    | none =>
      rw [putK_new v e] at hp
      rcases List.mem_append.mp hp with h | h
      · exact d.isI p h
      · rw [List.mem_singleton.mp h]
        exact ⟨s, rfl⟩
    | some x =>
      rw [keys_putK e] at hk
      obtain ⟨q, hq, e2⟩ := List.mem_map.mp hk
      obtain ⟨z, hz⟩ := d.isI q hq
      exact ⟨z, by rw [← e2, hz]⟩
theorem DM.congr {kvs : List (Key × V)} {f g : Int → Option V} (d : DM kvs f) (h : ∀ s, f s = g s) : DM kvs g := ⟨fun s => (d.val s).trans (h s), d.nd, d.isI⟩
theorem DM.mem {kvs : List (Key × V)} {f : Int → Option V} (d : DM kvs f) {s : Int} {v : V} : ((Sum.inl s : Key), v) ∈ kvs ↔ f s = some v := by
  rw [← d.val s]
  have nd := d.nd
  clear d
  constructor
  · intro h
    induction kvs with
    | nil => cases h
    | cons p kvs ih =>
      rw [List.map_cons, List.nodup_cons] at nd
      rcases List.mem_cons.mp h with e | h
      · rw [← e]; exact valV_pos rfl
      · rw [valV_neg (fun e => nd.1 (List.mem_map.mpr ⟨_, h, e.symm⟩))]
        exact ih nd.2 h
  · intro h
    unfold valV at h
    obtain ⟨p, hp, e⟩ := Option.map_eq_some_iff.mp h
    have h1 := List.find?_some hp
    have h2 := List.mem_of_find?_eq_some hp
    have h3 : p.1 = Sum.inl s := of_decide_eq_true h1
    rw [← e, ← h3]
    exact h2
def keyI : Key → Int
  | .inl i => i
  | .inr _ => 0
theorem DM.keysI {kvs : List (Key × V)} {f : Int → Option V} (d : DM kvs f) : (kvs.map fun p => keyI p.1).Nodup ∧ ∀ s, s ∈ (kvs.map fun p => keyI p.1) ↔ f s ≠ none := by
  constructor
  · have nd := d.nd
    have ii := d.isI
    clear d
    induction kvs with
    | nil => exact List.nodup_nil
    | cons p kvs ih =>
      rw [List.map_cons, List.nodup_cons] at nd ⊢
      refine ⟨fun h => nd.1 ?_, ih nd.2 fun q hq => ii q (List.mem_cons_of_mem _ hq)⟩
      obtain ⟨q, hq, e⟩ := List.mem_map.mp h
      obtain ⟨x, hx⟩ := ii p List.mem_cons_self
      obtain ⟨y, hy⟩ := ii q (List.mem_cons_of_mem _ hq)
      rw [hx, hy] at e
      refine List.mem_map.mpr ⟨q, hq, ?_⟩
      rw [hx, hy]
      exact congrArg Sum.inl e
  · intro s
    constructor
    · intro h
      obtain ⟨⟨k, v⟩, hq, e⟩ := List.mem_map.mp h
      obtain ⟨y, hy⟩ := d.isI _ hq
      simp only at hy e
      subst hy
      have : y = s := e
      subst this
      rw [d.mem.mp hq]
      exact Option.some_ne_none v
    · intro h
      cases e : f s with
      | none => exact absurd e h
      | some v => exact List.mem_map.mpr ⟨_, d.mem.mpr e, rfl⟩
/-- its size, by a list of all that may be keys -/
theorem DM.size {kvs : List (Key × V)} {f : Int → Option V} (d : DM kvs f) {l : List Int} (h : ∀ s, f s ≠ none → s ∈ l) : kvs.length ≤ l.length := by
  have key : ∀ (a b : List Int), a.Nodup → (∀ x ∈ a, x ∈ b) → a.length ≤ b.length := by
    intro a
    induction a with
    | nil => exact fun _ _ _ => Nat.zero_le _
    | cons x a ih =>
      intro b nd hb
      obtain ⟨m1, m2, rfl⟩ := List.append_of_mem (hb x List.mem_cons_self)
      have nd' := List.nodup_cons.mp nd
      have := ih (m1 ++ m2) nd'.2 fun y hy => by
        rcases List.mem_append.mp (hb y (List.mem_cons_of_mem _ hy)) with z | z
        · exact List.mem_append_left _ z
        · rcases List.mem_cons.mp z with rfl | z
          · exact absurd hy nd'.1
          · exact List.mem_append_right _ z
      simp at this ⊢
      omega
  have := key _ l d.keysI.1 fun s hs => h s ((d.keysI.2 s).mp hs)
  rwa [List.length_map] at this
/-- a dict comprehension over any walk -/
theorem dc_it {J : It} {n : Nat} {G : Hp → Prop} {Y : Nat → Hp → V → Hp → Prop} (w : Walk J n G Y) {g : TG} {tt : TT} {tk tv : TE} {vs : List Nat} {σ : L2.St} {H1 : Hp} {D : Addr} {Qd : Hp → Prop} (Pv : Nat → Hp → Prop) (h0 : Pv 0 (upd H1 D (.dK []))) (hG : ∀ i H, i ≤ n → Pv i H → G H)
    (hs : ∀ i x H H', i < n → Pv i H → Y i H x H' → g x (wipe σ vs) H' fun σ2 H2 => wipe σ2 vs = wipe σ vs ∧ tt σ2 H2 fun b H3 =>
      if b = true then tk σ2 H3 fun y H4 => tv σ2 H4 fun z H5 => ∃ kvs k, y = kV k ∧ H5 D = some (.dK kvs) ∧ kvs.length < sizeLine ∧ Pv (i + 1) (upd H5 D (.dK (putK kvs k z))) else Pv (i + 1) H3) (hd : ∀ H, Pv n H → Qd H) :
    ∃ W : Nat → Nat → Hp → Prop, (∃ m, W 0 m (upd H1 D (.dK []))) ∧ ∀ i m H, W i m H →
      (J.stop i H ∧ Qd H) ∨ (J.go i H ∧ ∃ Nx : Hp → Prop, (∀ H', Nx H' → ∃ m', m' < m ∧ W (i + 1) m' H') ∧ ∀ x H', J.yld i H x H' → g x (wipe σ vs) H' fun σ2 H2 => wipe σ2 vs = wipe σ vs ∧ tt σ2 H2 fun b H3 =>
        if b = true then tk σ2 H3 fun y H4 => tv σ2 H4 fun z H5 => ∃ kvs k, y = kV k ∧ H5 D = some (.dK kvs) ∧ kvs.length < sizeLine ∧ Nx (upd H5 D (.dK (putK kvs k z))) else Nx H3) := by
  refine ⟨fun i m H => m = n - i ∧ i ≤ n ∧ Pv i H, ⟨n, by simp, Nat.zero_le _, h0⟩, ?_⟩
  rintro i m H ⟨rfl, hi, p⟩
  have q := hG i H hi p
  by_cases hlt : i < n
  · exact .inr ⟨w.goes i H hlt q, Pv (i + 1), fun H' p' => ⟨n - (i + 1), by omega, rfl, hlt, p'⟩, fun x H' y => hs i x H H' hlt p (w.yields i H x H' hlt q y)⟩
  · obtain rfl : i = n := by omega
    exact .inl ⟨w.stops H q, hd H p⟩
section
variable {X : Cx}
/-- d != e, e empty -/
def rNeD0 : R2 := fun x y H Q => ∃ a b ks, x = .ref a ∧ y = .ref b ∧ H a = some (.dK ks) ∧ H b = some (.dK []) ∧ Q (.bl (!ks.isEmpty)) H
theorem op_neD0 (hu : X.A.units < cLine) : OpR X (compareOp .NotEq) rNeD0 := by
  intro pins s σ H x y v u Q I rx ry h
  obtain ⟨a, b, ks, rfl, rfl, ea, eb, q⟩ := h
  obtain rfl : v = Value.ref a := rx
  obtain rfl : u = Value.ref b := ry
  obtain ⟨_, ya, va, ra, da⟩ := (show ObjOk X.prog X.w H s.heap a (.dK ks) from I.hok a _ ea)
  obtain ⟨_, yb, vb, rb, db⟩ := (show ObjOk X.prog X.w H s.heap b (.dK []) from I.hok b _ eb)
  cases rb
  cases ra with
  | nil => exact PySem.W.keq_ne (knd := mixKind X.prog X.w) (r := true) ya yb da db hu (fun _ => .nil) (fin_bl I q (by simp))
  | cons r1 r2 => exact PySem.W.keq_ne (knd := mixKind X.prog X.w) (r := true) ya yb da db hu (fun e => by simp at e) (fin_bl I q (by simp))
end
end LB

namespace K24
open PySem PySem.Spec L2 KS GL LB K24m
open PyProof.Rows hiding cnt
def edges : List Row → Edges
  | [] => []
  | r :: l => if r.2.2 = -1 then edges l else (r.1, r.2.2) :: edges l
theorem edges_snoc (r : Row) : ∀ l : List Row, edges (l ++ [r]) = edges l ++ (if r.2.2 = -1 then [] else [(r.1, r.2.2)])
  | [] => by
    show edges [r] = _
    unfold edges
    split <;> simp [edges]
  | q :: l => by
    show edges (q :: (l ++ [r])) = edges (q :: l) ++ _
    rw [edges, edges, edges_snoc r l]
    split <;> simp
theorem edges_len : ∀ l : List Row, (edges l).length ≤ l.length
  | [] => Nat.le_refl _
  | r :: l => by
    have := edges_len l
    unfold edges
    split <;> simp <;> omega
theorem cnt_add (E : Edges) (s t x : Int) : cnt (E ++ [(s, t)]) [] x = cnt E [] x + if x = s then 1 else 0 := by
  unfold cnt
  rw [List.filter_append, List.length_append]
  by_cases h : x = s
  · rw [if_pos h]
    simp [List.filter_cons, h.symm]
  · rw [if_neg h]
    have : ¬ s = x := fun e => h e.symm
    simp [List.filter_cons, this]
theorem cnt_le (E : Edges) (P : List Int) (x : Int) : cnt E P x ≤ E.length := List.length_filter_le _ _
theorem befs_add (E : Edges) (s t x : Int) : befs (E ++ [(s, t)]) x = befs E x ++ if x = t then [s] else [] := by
  unfold befs
  rw [List.filter_append, List.map_append]
  by_cases h : x = t
  · rw [if_pos h]
    simp [List.filter_cons, h.symm]
  · rw [if_neg h]
    have : ¬ t = x := fun e => h e.symm
    simp [List.filter_cons, this]
theorem befs_le (E : Edges) (x : Int) : (befs E x).length ≤ E.length := by
  unfold befs
  rw [List.length_map]
  exact List.length_filter_le _ _
theorem befs_nil {E : Edges} {x : Int} : befs E x = [] ↔ ∀ s, (s, x) ∉ E := by
  rw [List.eq_nil_iff_forall_not_mem]
  exact ⟨fun h s hs => h s (mem_befs.mpr hs), fun h s hs => h s (mem_befs.mp hs)⟩
def mf (E : Edges) (g : Int → Int) : Int → Option V := fun s => if cnt E [] s = 0 then none else some (.int (g s))
def bf (E : Edges) (pt : Int → Addr) : Int → Option V := fun t => if befs E t = [] then none else some (.ref (pt t))
/-- the two dicts and the lists of those before -/
structure ES (H0 H : Hp) (M B : Addr) (E : Edges) (f : Int → Option V) (pt : Int → Addr) : Prop where
  same : Same H0 H
  fm : H0 M = none
  fb : H0 B = none
  ne : M ≠ B
  fl : ∀ t, befs E t ≠ [] → H0 (pt t) = none
  m : ∃ kvs, H M = some (.dK kvs) ∧ DM kvs f
  b : ∃ kvs, H B = some (.dK kvs) ∧ DM kvs (bf E pt)
  l : ∀ t, befs E t ≠ [] → H (pt t) = some (.lst ((befs E t).map V.int))
  inj : ∀ t t', befs E t ≠ [] → befs E t' ≠ [] → pt t = pt t' → t = t'
section
variable {H0 H : Hp} {M B : Addr} {E : Edges} {f : Int → Option V} {pt : Int → Addr}
theorem ES.neM (e : ES H0 H M B E f pt) {t : Int} (h : befs E t ≠ []) : pt t ≠ M := fun x => by
  obtain ⟨kvs, h1, _⟩ := e.m
  rw [← x, e.l t h] at h1
  cases h1
theorem ES.neB (e : ES H0 H M B E f pt) {t : Int} (h : befs E t ≠ []) : pt t ≠ B := fun x => by
  obtain ⟨kvs, h1, _⟩ := e.b
  rw [← x, e.l t h] at h1
  cases h1
/-- another thing is written -/
theorem ES.other (e : ES H0 H M B E f pt) {w : Addr} {H' : Hp} (hw : H0 w = none) (w1 : w ≠ M) (w2 : w ≠ B) (w3 : ∀ t, befs E t ≠ [] → w ≠ pt t) (hh : ∀ a, a ≠ w → H' a = H a) : ES H0 H' M B E f pt := by
  obtain ⟨kvs, h1, d1⟩ := e.m
  obtain ⟨kv2, h2, d2⟩ := e.b
  refine ⟨fun a u ha => ?_, e.fm, e.fb, e.ne, e.fl, ⟨kvs, by rw [hh _ w1.symm]; exact h1, d1⟩, ⟨kv2, by rw [hh _ w2.symm]; exact h2, d2⟩, fun t ht => by rw [hh _ (w3 t ht).symm]; exact e.l t ht, e.inj⟩
  rw [hh a (fun x => by rw [x, hw] at ha; cases ha)]
  exact e.same a u ha
theorem ES.free (e : ES H0 H M B E f pt) {w : Addr} (hw : H w = none) : H0 w = none ∧ w ≠ M ∧ w ≠ B ∧ ∀ t, befs E t ≠ [] → w ≠ pt t := by
  obtain ⟨kvs, h1, d1⟩ := e.m
  obtain ⟨kv2, h2, d2⟩ := e.b
  refine ⟨e.same.free hw, fun x => ?_, fun x => ?_, fun t ht x => ?_⟩
  · rw [x, h1] at hw; cases hw
  · rw [x, h2] at hw; cases hw
  · rw [x, e.l t ht] at hw; cases hw
theorem ES.junk (e : ES H0 H M B E f pt) {w : Addr} {o : HO} (hw : H w = none) : ES H0 (upd H w o) M B E f pt := by
  obtain ⟨a1, a2, a3, a4⟩ := e.free hw
  exact e.other a1 a2 a3 a4 fun a ha => upd_ne ha
/-- many is written -/
theorem ES.many (e : ES H0 H M B E f pt) {kvs : List (Key × V)} {g : Int → Option V} (d : DM kvs g) : ES H0 (upd H M (.dK kvs)) M B E g pt := by
  obtain ⟨kv2, h2, d2⟩ := e.b
  refine ⟨fun a u ha => ?_, e.fm, e.fb, e.ne, e.fl, ⟨kvs, upd_same, d⟩, ⟨kv2, by rw [upd_ne e.ne.symm]; exact h2, d2⟩, fun t ht => by rw [upd_ne (e.neM ht)]; exact e.l t ht, e.inj⟩
  rw [upd_ne (ne_of_none ha e.fm)]
  exact e.same a u ha
/-- one more edge; t is no target yet -/
theorem ES.new (e : ES H0 H M B E f pt) {s t : Int} {p : Addr} {kvs : List (Key × V)} {H' : Hp} (hb : befs E t = []) (hp : H p = none) (d : DM kvs (fun x => if x = t then some (.ref p) else bf E pt x))
    (hB : H' B = some (.dK kvs)) (hP : H' p = some (.lst [.int s])) (hh : ∀ a, a ≠ B → a ≠ p → H' a = H a) : ES H0 H' M B (E ++ [(s, t)]) f (fun x => if x = t then p else pt x) := by
  obtain ⟨a1, a2, a3, a4⟩ := e.free hp
  obtain ⟨kv1, h1, d1⟩ := e.m
  have key : ∀ x, ¬ x = t → befs (E ++ [(s, t)]) x = befs E x := fun x hx => by rw [befs_add, if_neg hx, List.append_nil]
  have keyt : befs (E ++ [(s, t)]) t = [s] := by rw [befs_add, if_pos rfl, hb]; rfl
  refine ⟨fun a u ha => ?_, e.fm, e.fb, e.ne, fun x hx => ?_, ⟨kv1, by rw [hh _ e.ne a2.symm]; exact h1, d1⟩, ⟨kvs, hB, d.congr fun x => ?_⟩, fun x hx => ?_, fun x y hx hy hxy => ?_⟩
  · rw [hh a (ne_of_none ha e.fb) (ne_of_none ha a1)]
    exact e.same a u ha
  · by_cases h : x = t
    · simp only [h, if_true]; exact a1
    · simp only [h, if_false]
      rw [key x h] at hx
      exact e.fl x hx
  · unfold bf
    by_cases h : x = t
    · subst h
      rw [keyt, if_pos rfl, if_neg (by simp)]
      simp
    · rw [if_neg h, key x h]
      simp [h]
  · by_cases h : x = t
    · subst h
      rw [keyt]
      simp only [if_true]
      exact hP
    · rw [key x h] at hx ⊢
      simp only [h, if_false]
      rw [hh _ (e.neB hx) (a4 x hx).symm]
      exact e.l x hx
  · by_cases h : x = t
    · by_cases k : y = t
      · rw [h, k]
      · rw [key y k] at hy
        simp only [h, k, if_true, if_false] at hxy
        exact absurd hxy (a4 y hy)
    · rw [key x h] at hx
      by_cases k : y = t
      · rw [if_neg h, if_pos k] at hxy
        exact absurd hxy.symm (a4 x hx)
      · rw [key y k] at hy
        simp only [h, k, if_false] at hxy
        exact e.inj x y hx hy hxy
/-- one more edge; t is a target -/
theorem ES.old (e : ES H0 H M B E f pt) {s t : Int} {H' : Hp} (hb : befs E t ≠ []) (hP : H' (pt t) = some (.lst ((befs E t).map V.int ++ [.int s]))) (hh : ∀ a, a ≠ pt t → H' a = H a) : ES H0 H' M B (E ++ [(s, t)]) f pt := by
  obtain ⟨kv1, h1, d1⟩ := e.m
  obtain ⟨kv2, h2, d2⟩ := e.b
  have key : ∀ x, ¬ x = t → befs (E ++ [(s, t)]) x = befs E x := fun x hx => by rw [befs_add, if_neg hx, List.append_nil]
  have keyt : befs (E ++ [(s, t)]) t = befs E t ++ [s] := by rw [befs_add, if_pos rfl]
  have keyn : ∀ x, befs (E ++ [(s, t)]) x = [] ↔ befs E x = [] := fun x => by
    by_cases h : x = t
    · subst h
      rw [keyt]
      simp [hb]
    · rw [key x h]
  refine ⟨fun a u ha => ?_, e.fm, e.fb, e.ne, fun x hx => e.fl x fun z => hx ((keyn x).mpr z), ⟨kv1, by rw [hh _ (e.neM hb).symm]; exact h1, d1⟩, ⟨kv2, by rw [hh _ (e.neB hb).symm]; exact h2, d2.congr fun x => ?_⟩, fun x hx => ?_, fun x y hx hy => e.inj x y (fun z => hx ((keyn x).mpr z)) fun z => hy ((keyn y).mpr z)⟩
  · rw [hh a (ne_of_none ha (e.fl t hb))]
    exact e.same a u ha
  · unfold bf
    by_cases h : befs E x = []
    · rw [if_pos h, if_pos ((keyn x).mpr h)]
    · rw [if_neg h, if_neg fun z => h ((keyn x).mp z)]
  · have hx' : befs E x ≠ [] := fun z => hx ((keyn x).mpr z)
    by_cases h : x = t
    · subst h
      rw [hP, keyt, List.map_append]
      rfl
    · rw [key x h, hh _ fun z => h (e.inj x t hx' hb z)]
      exact e.l x hx'
end
end K24

namespace K24
open PySem PySem.Spec L2 KS GL LB K24m
open PyProof.Rows hiding cnt
section
variable {P : Program} {w : World} {K : PySem.W.Frag} {mg : Str → Option Value} {base : Heap}
def spEnd (K : PySem.W.Frag) : Sp := fun vs H Q _ => ∃ (a : Addr) (rs : List (Addr × Row)), vs = [.ref a] ∧ SqT K H a (rowRefs rs) ∧ RowsAt K H rs ∧ rs.length ≤ 76 ∧
  ∀ (p : Addr) (kvs : List (Key × V)) (H' : Hp), Same H H' → H' p = some (.dK kvs) → (kvs ≠ [] ↔ Cyc (edges (rs.map (·.2)))) → Q (.ref p) H'
theorem scEndless : FnScope ["arrows", "many", "befores", "source", "label", "target", "waiting", "here", "state", "left"] ["arrows"] (defScope sEndless) := ⟨rfl, rfl, rfl, by decide +kernel, rfl, by decide +kernel, by decide +kernel⟩
theorem len_mf {E : Edges} {g : Int → Int} {kvs : List (Key × V)} (d : DM kvs (mf E g)) : kvs.length ≤ E.length := by
  have := d.size (l := E.map (·.1)) fun s hs => by
    unfold mf at hs
    split at hs
    · exact absurd rfl hs
    · rename_i h
      have : ¬ ∀ t, (s, t) ∈ E → t ∈ [] := fun z => h (cnt_zero.mpr z)
      refine Classical.byContradiction fun no => this fun t ht => absurd (List.mem_map.mpr ⟨(s, t), ht, rfl⟩) no
  rwa [List.length_map] at this
theorem len_bf {E : Edges} {pt : Int → Addr} {kvs : List (Key × V)} (d : DM kvs (bf E pt)) : kvs.length ≤ E.length := by
  have := d.size (l := E.map (·.2)) fun s hs => by
    unfold bf at hs
    split at hs
    · exact absurd rfl hs
    · rename_i h
      refine Classical.byContradiction fun no => h (befs_nil.mpr fun t ht => no (List.mem_map.mpr ⟨(t, s), ht, rfl⟩))
  rwa [List.length_map] at this
theorem ok_endless {f : Addr} {fd : FuncData} (F : Fun K "endless_states" "endless_states" sEndless f fd) (gE : ∃ u, mg "END" = some u ∧ RelV (.int (-1)) u) : FnOk P w K mg base CX0 1 f fd ["arrows"] (spEnd K) := by
  refine F.ok scEndless (fun vs H Q E h => ?_) (fun cdv A outer s H vs Q E hr h => ?_)
  · obtain ⟨_, _, rfl, _⟩ := h
    rfl
  · obtain ⟨a, rs, rfl, hS, hR, hlen, q⟩ := h
    have hu := hu_of hr
    have hu64 := hr.units
    obtain ⟨uE, gE1, gE2⟩ := gE
    have M : True := trivial
    refine ⟨_, (pss_cons (ps_asg (pe_tup (pa_cons pe_dnewK (pa_cons pe_dnewK pa_nil))) (pg_tup rfl (pgs_cons (pg_name (i := 1) scEndless.nd rfl (Or.inr rfl)) (pgs_cons (pg_name (i := 2) scEndless.nd rfl (Or.inl rfl)) pgs_nil))))
  (pss_cons (ps_for PassesOwn.never rfl (pi_tup (pv 0)) (pg_tup rfl (pgs_cons (pg_name (i := 3) scEndless.nd rfl (Or.inl rfl)) (pgs_cons (pg_name (i := 4) scEndless.nd rfl (Or.inl rfl)) (pgs_cons (pg_name (i := 5) scEndless.nd rfl (Or.inl rfl)) pgs_nil))))
    (pss_one (ps_if (pt_cmpR op_ne (pv 5) (pe_glob rfl gE1 gE2) (nomark _))
    (pss_cons (ps_dput hu (pv 1) (pv 3) (pe_op op_add (pe_dget2 hu (pv 1) (pv 3) pe_int ⟨rfl, rfl, rfl, rfl⟩) pe_int) rfl)
  (pss_one (ps_expr (pe_bm PySem.F.plainAttrs_list PySem.F.slot_list_append PySem.F.type_list_append mt_append (pe_dsetd (pv 2) (pv 5) (pe_lst pa_nil) ⟨rfl, rfl, rfl, rfl⟩) (pa_cons (pv 3) pa_nil)))))
    pss_nil)))
  (pss_cons (ps_lock (ps_setLc (i := 6) (own := [("target", 5)]) (g := gName 5) rfl scEndless.nd rfl rfl (sw_true rfl rfl rfl (by decide +kernel)) (pi_keys (pv 2)) (blkOk_by (own := [("target", 5)]) (N := ["arrows", "many", "befores", "source", "label", "target", "waiting", "here", "state", "left"]) (sc := defScope sEndless) (by decide +kernel)) (fun _ _ _ _ _ => (pg_name (i := 5) scEndless.nd rfl (Or.inl rfl))) (fun _ _ _ _ _ => pts_one (pt_cmp (pc_dnotin hu (pv 5) (pv 1)))) (fun _ _ _ _ _ => (pv 5))))
  (pss_cons (ps_while PassesOwn.never (pt_cmpR (op_neD hu64) (pv 6) (pe_lst pa_nil) (nomark _))
    (pss_cons (ps_set (i := 7) scEndless.nd rfl (Or.inl rfl) (pe_bm0 PySem.F.plainAttrs_list PySem.F.slot_list_pop PySem.F.type_list_pop mt_pop (pv 6)))
  (pss_one (ps_for PassesOwn.never rfl (pi_list (pe_dget2 hu (pv 2) (pv 7) (pe_lst pa_nil) ⟨rfl, rfl, rfl, rfl⟩)) (pg_name (i := 3) scEndless.nd rfl (Or.inl rfl))
    (pss_cons (ps_daug hu (pv 1) (pv 3) pe_int in_sub (fun _ _ _ => rfl))
  (pss_one (ps_if (pt_cmpR op_eq (pe_dget hu (pv 1) (pv 3) (fun _ _ => rfl)) pe_int (nomark _))
    (pss_one (ps_expr (pe_bm PySem.F.plainAttrs_list PySem.F.slot_list_append PySem.F.type_list_append mt_append (pv 6) (pa_cons (pv 3) pa_nil))))
    pss_nil)))))))
  (pss_one (ps_ret (pe_lock (pe_dc (own := [("state", 8), ("left", 9)]) (g := gTup K 2 (gCons (gName 8) (gCons (gName 9) gNil))) rfl scEndless.nd (pi_items (pv 1)) (blkOk_by (own := [("state", 8), ("left", 9)]) (N := ["arrows", "many", "befores", "source", "label", "target", "waiting", "here", "state", "left"]) (sc := defScope sEndless) (by decide +kernel)) (fun _ _ _ _ _ => (pg_tup rfl (pgs_cons (pg_name (i := 8) scEndless.nd rfl (Or.inl rfl)) (pgs_cons (pg_name (i := 9) scEndless.nd rfl (Or.inl rfl)) pgs_nil)))) (fun _ _ _ _ _ => pts_one (pt_cmpR op_gt (pv 9) pe_int (nomark _))) (fun _ _ _ _ _ => (pv 8)) (fun _ _ _ _ _ => pe_bl))))))))), ?_⟩
    refine fun M hM B hB => ⟨(show 2 ≤ sizeLine by decide), fun t ht => ⟨t, _, rfl, .inl (.inl upd_same), rfl, _, _, rfl, _, _, rfl, rfl, ?_⟩⟩
    have MB : M ≠ B := fun e => by rw [← e, upd_same] at hB; cases hB
    have E0 : ES H (upd (upd H M (.dK [])) B (.dK [])) M B [] (mf [] fun s => cnt [] [] s) (fun _ => 0) := by
      refine ⟨(same_upd hM).trans (same_upd hB), hM, (same_upd hM).free hB, MB, fun t ht => absurd rfl ht, ⟨[], by rw [upd_ne MB, upd_same], DM.nil⟩, ⟨[], upd_same, DM.nil⟩, fun t ht => absurd rfl ht, fun t _ ht => absurd rfl ht⟩
    have E1 := E0.junk (o := .tup [.ref M, .ref B]) ht
    refine ⟨.ref a, rfl, a, rfl, ⟨_, sameT E1.same hS⟩, for_tup (xs := rowRefs rs) (fun i σ H1 => ∃ (pt : Int → Addr) (y3 y4 y5 : Option V), σ = [some (.ref a), some (.ref M), some (.ref B), y3, y4, y5, none, none, none, none] ∧
        ES H H1 M B (edges ((rs.map (·.2)).take i)) (mf (edges ((rs.map (·.2)).take i)) fun s => cnt (edges ((rs.map (·.2)).take i)) [] s) pt) ⟨_, none, none, none, rfl, E1⟩ (fun i σ H1 _ ⟨_, _, _, _, _, e⟩ => sameT e.same hS) ?_ ?_⟩
    · rintro i x σ H1 hx ⟨pt, y3, y4, y5, rfl, e⟩
      have hi : i < rs.length := by
        have := (List.getElem?_eq_some_iff.mp hx).1
        rwa [rowRefs_len] at this
      obtain rfl : V.ref rs[i].1 = x := by
        unfold rowRefs at hx
        rw [List.getElem?_map, List.getElem?_eq_getElem hi] at hx
        exact Option.some.inj hx
      have hrow : SqT K H1 rs[i].1 (rowV rs[i].2) := sameT e.same (hR rs[i] (List.getElem_mem hi))
      have htk : (rs.map (·.2)).take (i + 1) = (rs.map (·.2)).take i ++ [rs[i].2] := by
        rw [List.take_succ, List.getElem?_map, List.getElem?_eq_getElem hi]
        rfl
      have hes := edges_snoc rs[i].2 ((rs.map (·.2)).take i)
      rw [← htk] at hes
      have hEl : (edges ((rs.map (·.2)).take i)).length ≤ 76 := by
        have h1 := edges_len ((rs.map (·.2)).take i)
        have h2 : ((rs.map (·.2)).take i).length ≤ (rs.map (·.2)).length := List.length_take_le' _ _
        rw [List.length_map] at h2
        omega
      rw [hes]
      generalize edges ((rs.map (·.2)).take i) = E at e hEl
      generalize rs[i].1 = p at hrow
      generalize rs[i].2 = r at hrow
      obtain ⟨s, lb, tg⟩ := r
      refine ⟨p, _, rfl, hrow, rfl, _, _, rfl, _, _, rfl, _, _, rfl, rfl, ?_⟩
      dsimp only
      refine ⟨.int tg, rfl, rfl, _, rfl, ite2 (fun h1 => ?_) (fun h1 => ?_)⟩
      · have htg : ¬ tg = -1 := fun z => by subst z; simp at h1
        simp only [htg, if_false]
        obtain ⟨kvs, k1, d1⟩ := e.m
        have hk := len_mf d1
        have hg : ((mf E fun s => cnt E [] s) s).getD (.int 0) = .int (cnt E [] s) := by
          unfold mf
          split
          · rename_i h0; rw [h0]; rfl
          · rfl
        refine ⟨.ref M, rfl, M, rfl, .inl ⟨kvs, .inl k1⟩, .int s, rfl, (mf E fun s => cnt E [] s) s, (by rw [← d1.val s]; exact DGet.k (k := (Sum.inl s : Key)) k1), cnt E [] s, 1, hg, rfl, ?_⟩
        refine ⟨.ref M, rfl, .int s, rfl, M, _, rfl, .inl ⟨kvs, Sum.inl s, k1, rfl, small1000 (by omega), rfl⟩, ?_⟩
        have e2 := e.many (d1.put s (.int ((cnt E [] s : Nat) + 1)))
        have hf : ∀ x, (fun x => if x = s then some (V.int ((cnt E [] s : Nat) + 1)) else mf E (fun s => cnt E [] s) x) x = mf (E ++ [(s, tg)]) (fun x => cnt (E ++ [(s, tg)]) [] x) x := fun x => by
          unfold mf
          simp only [cnt_add]
          by_cases h : x = s
          · subst h
            simp
          · simp [h]
        rw [show (fun x => if x = s then some (V.int ((cnt E [] s : Nat) + 1)) else mf E (fun s => cnt E [] s) x) = _ from funext hf] at e2
        generalize upd H1 M (.dK (putK kvs (Sum.inl s) (.int ((cnt E [] s : Nat) + 1)))) = H2 at e2
        obtain ⟨kv2, k2, d2⟩ := e2.b
        have hk2 := len_bf d2
        refine ⟨.ref B, rfl, B, rfl, .inl ⟨kv2, .inl k2⟩, .int tg, rfl, Nat.zero_le _, fun l hl => ?_⟩
        have Bl : B ≠ l := ne_of_none k2 hl
        refine ⟨kv2, Sum.inl tg, by rw [upd_ne Bl]; exact k2, rfl, small1000 (by omega), fun v hv => ?_, fun hn => ?_⟩
        · rw [d2.val tg] at hv
          have hb : befs E tg ≠ [] := fun z => by unfold bf at hv; rw [if_pos z] at hv; cases hv
          obtain rfl : V.ref (pt tg) = v := by unfold bf at hv; rw [if_neg hb] at hv; exact Option.some.inj hv
          have e3 := e2.junk (o := .lst []) hl
          have k3 := e3.l tg hb
          have hbl := befs_le E tg
          refine ⟨.inl ⟨rfl, _, .inl (.inl k3)⟩, .int s, rfl, pt tg, _, .int s, rfl, rfl, k3, (by rw [List.length_map]; exact small1000 (by omega)), ?_⟩
          exact ⟨pt, _, _, _, rfl, e3.old hb upd_same fun a ha => upd_ne ha⟩
        · rw [d2.val tg] at hn
          have hb : befs E tg = [] := Classical.byContradiction fun z => by unfold bf at hn; rw [if_neg z] at hn; cases hn
          have k3 : (upd (upd H2 l (.lst [])) B (.dK (putK kv2 (Sum.inl tg) (.ref l)))) l = some (.lst []) := by rw [upd_ne Bl.symm, upd_same]
          refine ⟨.inl ⟨rfl, _, .inl (.inl k3)⟩, .int s, rfl, l, _, .int s, rfl, rfl, k3, (show 0 < sizeLine by decide), ?_⟩
          refine ⟨_, _, _, _, rfl, e2.new hb hl (d2.put tg (.ref l)) (by rw [upd_ne Bl, upd_same]) upd_same fun a h1 h2 => by rw [upd_ne h2, upd_ne h1, upd_ne h2]⟩
      · have htg : tg = -1 := Classical.byContradiction fun z => h1 (by simpa using z)
        simp only [htg, if_true, List.append_nil]
        exact ⟨pt, _, _, _, rfl, e⟩
    · rintro σ H1 ⟨pt, y3, y4, y5, rfl, e⟩
      rw [rowRefs_len, ← List.length_map (f := (·.2)) (as := rs), List.take_length] at e
      have hEl : (edges (rs.map (·.2))).length ≤ 76 := by
        have h1 := edges_len (rs.map (·.2))
        rw [List.length_map] at h1
        omega
      generalize edges (rs.map (·.2)) = E at e hEl q
      obtain ⟨kv2, k2, d2⟩ := e.b
      obtain ⟨kvs, k1, d1⟩ := e.m
      have hk2 := len_bf d2
      refine ⟨B, .dK kv2, k2, trivial, fun od => ⟨.ref B, rfl, B, od, rfl, .inl ⟨kv2, upd_same, fun D hD => ?_⟩⟩⟩
      have DB : D ≠ B := fun z => by rw [z, upd_same] at hD; cases hD
      rw [upd_ne DB] at hD
      obtain ⟨D1, D2, D3, D4⟩ := e.free hD
      refine lc_it walk_keys (fun i H' => H' = upd (upd H1 B (.frz od (.dK kv2))) D (.lst ((((kv2.map fun p => keyI p.1).take i).filter fun z => decide (cnt E [] z = 0)).map V.int))) rfl (fun i H' _ h => by rw [h, upd_ne DB.symm, upd_same]) ?_ ?_
      · rintro i x H2 H2' hi rfl ⟨rfl, k, v, hkv, rfl⟩
        obtain ⟨z, hz⟩ := d2.isI _ (List.mem_of_getElem? hkv)
        dsimp only at hz
        subst hz
        have htk : (kv2.map fun p => keyI p.1).take (i + 1) = (kv2.map fun p => keyI p.1).take i ++ [z] := by
          rw [List.take_succ, List.getElem?_map, hkv]
          rfl
        rw [htk, List.filter_append, List.map_append]
        have hM : (upd (upd H1 B (.frz od (.dK kv2))) D (.lst ((((kv2.map fun p => keyI p.1).take i).filter fun z => decide (cnt E [] z = 0)).map V.int))) M = some (.dK kvs) := by rw [upd_ne D2.symm, upd_ne e.ne]; exact k1
        have hlen : (((kv2.map fun p => keyI p.1).take i).filter fun z => decide (cnt E [] z = 0)).length < sizeLine := by
          have h1 := List.length_filter_le (fun z => decide (cnt E [] z = 0)) ((kv2.map fun p => keyI p.1).take i)
          have h2 := List.length_take_le i (kv2.map fun p => keyI p.1)
          exact small1000 (by omega)
        generalize (((kv2.map fun p => keyI p.1).take i).filter fun z => decide (cnt E [] z = 0)) = acc at hM hlen
        refine ⟨rfl, .int z, rfl, .ref M, rfl, M, (mf E fun s => cnt E [] s) z, rfl, (by rw [← d1.val z]; exact DGet.k (k := (Sum.inl z : Key)) hM), _, rfl, ite2 (fun h1 => ?_) (fun h1 => ?_)⟩
        · have h0 : cnt E [] z = 0 := Classical.byContradiction fun n => by unfold mf at h1; rw [if_neg n] at h1; cases h1
          refine ⟨.int z, rfl, _, upd_same, by rw [List.length_map]; exact hlen, ?_⟩
          rw [upd_upd]
          simp [List.filter_cons, h0]
        · have h0 : ¬ cnt E [] z = 0 := fun n => h1 (by unfold mf; rw [if_pos n]; rfl)
          simp [List.filter_cons, h0]
      · rintro H2 rfl
        have hW0 : ((kv2.map fun p => keyI p.1).take kv2.length) = kv2.map fun p => keyI p.1 := by
          rw [← List.length_map (f := fun p : Key × V => keyI p.1) (as := kv2), List.take_length]
        rw [hW0]
        have K0 : Kahn E [] ((kv2.map fun p => keyI p.1).filter fun z => decide (cnt E [] z = 0)) := by
          refine Kahn.init (d2.keysI.1.filter _) fun y => ?_
          rw [List.mem_filter, d2.keysI.2 y, decide_eq_true_eq, cnt_zero]
          refine and_congr ⟨fun h => ?_, fun ⟨s, hs⟩ h => ?_⟩ ⟨fun h t ht => (nomatch h t ht), fun h t ht => absurd ht (h t)⟩
          · refine Classical.byContradiction fun no => h ?_
            unfold bf
            rw [if_pos (befs_nil.mpr fun s hs => no ⟨s, hs⟩)]
          · unfold bf at h
            rw [if_neg fun z => (befs_nil.mp z) s hs] at h
            cases h
        generalize ((kv2.map fun p => keyI p.1).filter fun z => decide (cnt E [] z = 0)) = W0 at K0
        refine ⟨by rw [upd_ne DB.symm, upd_same], ?_⟩
        have e3 : ES H (upd (upd (upd H1 B (.frz od (.dK kv2))) D (.lst (W0.map V.int))) B (.dK kv2)) M B E (mf E fun s => cnt E [] s) pt := e.other D1 D2 D3 D4 fun a ha => by
          by_cases hb : a = B
          · rw [hb, upd_same, k2]
          · rw [upd_ne hb, upd_ne ha, upd_ne hb]
        have c3 : (upd (upd (upd H1 B (.frz od (.dK kv2))) D (.lst (W0.map V.int))) B (.dK kv2)) D = some (.lst (W0.map V.int)) := by rw [upd_ne DB, upd_same]
        generalize (upd (upd (upd H1 B (.frz od (.dK kv2))) D (.lst (W0.map V.int))) B (.dK kv2)) = H3 at e3 c3
        clear e k1 d1 k2 d2 hk2 E1 E0 hD
        refine ⟨fun m σ H4 => ∃ (P W : List Int) (y3 y4 y5 y7 : Option V), σ = [some (.ref a), some (.ref M), some (.ref B), y3, y4, y5, some (.ref D), y7, none, none] ∧ m = 2 * E.length - P.length ∧ Kahn E P W ∧
          ES H H4 M B E (mf E fun s => cnt E P s) pt ∧ H4 D = some (.lst (W.map V.int)), ⟨_, [], W0, y3, y4, y5, none, rfl, rfl, K0, e3, c3⟩, ?_⟩
        rintro m σ H4 ⟨P, W, y3, y4, y5, y7, rfl, rfl, kn, e, c4⟩
        have hPW : P.length + W.length ≤ 2 * E.length := by
          have := nodup_le (m := E.map (·.1) ++ E.map (·.2)) kn.nd fun x hx => by
            rcases kn.tgt x hx with ⟨s, hs⟩ | ⟨t, ht⟩
            · exact List.mem_append_right _ (List.mem_map.mpr ⟨_, hs, rfl⟩)
            · exact List.mem_append_left _ (List.mem_map.mpr ⟨_, ht, rfl⟩)
          simp at this
          omega
        refine ⟨.ref D, rfl, Nat.zero_le _, fun y hy => ?_⟩
        have Dy : D ≠ y := ne_of_none c4 hy
        have e5 := e.junk (o := .lst []) hy
        have c5 : (upd H4 y (.lst [])) D = some (.lst (W.map V.int)) := by rw [upd_ne Dy]; exact c4
        refine ⟨_, _, .lst (.inl (.inl c5)) (dp_ints W), .lst (.inl (.inl upd_same)) .nil, shaped_ints W, shaped_nil, _, rfl, ?_⟩
        rw [eqv_nil]
        generalize upd H4 y (.lst []) = H5 at e5 c5
        clear e c4
        rcases List.eq_nil_or_concat W with rfl | ⟨W', h, rfl⟩
        · refine iteF ?_
          obtain ⟨kvs, k1, d1⟩ := e5.m
          have hk := len_mf d1
          refine ⟨M, .dK kvs, k1, trivial, fun od => ⟨.ref M, rfl, M, od, kvs, rfl, upd_same, fun D2' hD2 => ?_⟩⟩
          have DM' : D2' ≠ M := fun z => by rw [z, upd_same] at hD2; cases hD2
          refine dc_it walk_items (fun i H' => H' M = some (.frz od (.dK kvs)) ∧ Same H H' ∧ H D2' = none ∧ ∃ kd, H' D2' = some (.dK kd) ∧ kd.length ≤ i ∧ (kd ≠ [] ↔ ∃ p ∈ kvs.take i, ∃ n : Int, p.2 = .int n ∧ 0 < n)) ?_ (fun i H' _ h => h.1) ?_ ?_
          · rw [upd_ne DM'] at hD2
            refine ⟨by rw [upd_ne DM'.symm, upd_same], ?_, e5.same.free hD2, [], upd_same, Nat.zero_le _, by simp⟩
            refine fun b u hb => ?_
            rw [upd_ne (ne_of_none hb (e5.same.free hD2)), upd_ne (ne_of_none hb e5.fm)]
            exact e5.same b u hb
          · rintro i x H6 H7 hi ⟨g1, g2, g3, kd, g4, g5, g6⟩ ⟨T, u, v, rfl, hT, rfl, hu', hv'⟩
            have ekv : kvs[i]? = some kvs[i] := List.getElem?_eq_getElem hi
            dsimp only at hu' hv'
            rw [ekv] at hu' hv'
            obtain rfl := Option.some.inj hu'
            obtain rfl := Option.some.inj hv'
            have hmem : kvs[i] ∈ kvs := List.getElem_mem hi
            have htk : kvs.take (i + 1) = kvs.take i ++ [kvs[i]] := by rw [List.take_succ, ekv]; rfl
            rw [htk]
            generalize kvs[i] = p at hmem
            obtain ⟨k, v⟩ := p
            obtain ⟨s, hs⟩ := d1.isI _ hmem
            dsimp only at hs
            subst hs
            have hv := d1.mem.mp hmem
            obtain ⟨n, rfl⟩ : ∃ n : Int, v = .int n := by
              unfold mf at hv
              split at hv
              · cases hv
              · exact ⟨_, (Option.some.inj hv).symm⟩
            have TM : M ≠ T := ne_of_none g1 hT
            have TD : D2' ≠ T := ne_of_none g4 hT
            refine ⟨T, _, rfl, .inl (.inl upd_same), rfl, _, _, rfl, _, _, rfl, rfl, rfl, .int n, rfl, n, 0, rfl, rfl, _, rfl, ite2 (fun h1 => ?_) (fun h1 => ?_)⟩
            · have hn : 0 < n := of_decide_eq_true h1
              refine ⟨.int s, rfl, kd, Sum.inl s, rfl, by rw [upd_ne TD]; exact g4, small1000 (by omega), by rw [upd_ne DM'.symm, upd_ne TM]; exact g1, ?_, g3, _, upd_same, ?_, ?_⟩
              · refine fun b u hb => ?_
                rw [upd_ne (ne_of_none hb g3), upd_ne (ne_of_none (g2 b u hb) hT)]
                exact g2 b u hb
              · have := length_putK kd (Sum.inl s : Key) (.bl true)
                omega
              · refine ⟨fun _ => ⟨_, List.mem_append_right _ (List.mem_singleton.mpr rfl), n, rfl, hn⟩, fun _ hnil => ?_⟩
                have := valV_put kd (Sum.inl s : Key) (Sum.inl s) (.bl true)
                rw [hnil, if_pos rfl] at this
                cases this
            · have hn : ¬ 0 < n := fun z => h1 (decide_eq_true z)
              refine ⟨by rw [upd_ne TM]; exact g1, ?_, g3, kd, by rw [upd_ne TD]; exact g4, by omega, ?_⟩
              · exact g2.trans (same_upd hT)
              · rw [g6]
                constructor
                · rintro ⟨p, hp, r⟩
                  exact ⟨p, List.mem_append_left _ hp, r⟩
                · rintro ⟨p, hp, n', hn', hpos⟩
                  rcases List.mem_append.mp hp with z | z
                  · exact ⟨p, z, n', hn', hpos⟩
                  · rw [List.mem_singleton.mp z] at hn'
                    dsimp only at hn'
                    injection hn' with hn'
                    omega
          · rintro H6 ⟨g1, g2, g3, kd, g4, g5, g6⟩
            refine ⟨g1, q D2' kd _ ?_ (by rw [upd_ne DM']; exact g4) ?_⟩
            · refine fun b u hb => ?_
              rw [upd_ne (ne_of_none hb e5.fm)]
              exact g2 b u hb
            · rw [g6, List.take_length, ← kn.fin]
              constructor
              · rintro ⟨⟨k, v⟩, hp, n, hn, hpos⟩
                obtain ⟨s, hs⟩ := d1.isI _ hp
                dsimp only at hs hn
                subst hs hn
                have hv := d1.mem.mp hp
                refine ⟨s, fun z => ?_⟩
                unfold mf at hv
                split at hv
                · cases hv
                · have := Option.some.inj hv
                  injection this with this
                  have this : ((cnt E P s : Nat) : Int) = n := this
                  omega
              · rintro ⟨s, hs⟩
                have h0 : ¬ cnt E [] s = 0 := fun z => hs (cnt_zero.mpr fun t ht => (nomatch cnt_zero.mp z t ht))
                refine ⟨(Sum.inl s, .int (cnt E P s)), d1.mem.mpr ?_, _, rfl, by omega⟩
                unfold mf
                rw [if_neg h0]
        · simp only [List.concat_eq_append] at c5 kn hPW ⊢
          rw [show ((W' ++ [h]).isEmpty) = false by cases W' <;> rfl]
          refine iteT ?_
          refine ⟨fun σ H4 => ∃ m', m' < 2 * E.length - P.length ∧ ∃ (P W : List Int) (y3 y4 y5 y7 : Option V), σ = [some (.ref a), some (.ref M), some (.ref B), y3, y4, y5, some (.ref D), y7, none, none] ∧ m' = 2 * E.length - P.length ∧ Kahn E P W ∧
            ES H H4 M B E (mf E fun s => cnt E P s) pt ∧ H4 D = some (.lst (W.map V.int)), fun _ _ h => h, ?_⟩
          have hp := kn.here
          have hcs : ∀ s, cnt E (P ++ [h]) s + (befs E h).count s = cnt E P s := fun s => cnt_snoc hp E
          rw [List.length_append, List.length_singleton] at hPW
          refine ⟨.ref D, rfl, .inl ⟨rfl, _, .inl (.inl c5)⟩, D, _, .int h, rfl, rfl, c5, by simp, ?_⟩
          have e6 := e5.other (H' := upd H5 D (.lst (((W' ++ [h]).map V.int).dropLast))) D1 D2 D3 D4 fun a ha => upd_ne ha
          have c6 : (upd H5 D (.lst (((W' ++ [h]).map V.int).dropLast))) D = some (.lst (W'.map V.int)) := by
            rw [upd_same, List.map_append]
            simp
          generalize (upd H5 D (.lst (((W' ++ [h]).map V.int).dropLast))) = H6 at e6 c6
          clear e5 c5
          obtain ⟨kv2, k2, d2⟩ := e6.b
          refine ⟨.ref B, rfl, B, rfl, .inl ⟨kv2, .inl k2⟩, .int h, rfl, Nat.zero_le _, fun l hl => ?_⟩
          have Bl : B ≠ l := ne_of_none k2 hl
          have Dl : D ≠ l := ne_of_none c6 hl
          have e7 := e6.junk (o := .lst []) hl
          obtain ⟨lf1, lf2, lf3, lf4⟩ := e6.free hl
          refine ⟨bf E pt h, (by rw [← d2.val h]; exact DGet.k (k := (Sum.inl h : Key)) (by rw [upd_ne Bl]; exact k2)), ?_⟩
          obtain ⟨L, hL, cL, LM, LD⟩ : ∃ L, (bf E pt h).getD (.ref l) = .ref L ∧ (upd H6 l (.lst [])) L = some (.lst ((befs E h).map V.int)) ∧ L ≠ M ∧ L ≠ D := by
            unfold bf
            by_cases hb : befs E h = []
            · exact ⟨l, by rw [if_pos hb]; rfl, by rw [upd_same, hb]; rfl, lf2, Dl.symm⟩
            · exact ⟨pt h, by rw [if_neg hb]; rfl, e7.l h hb, e7.neM hb, (D4 h hb).symm⟩
          rw [hL]
          have c7 : (upd H6 l (.lst [])) D = some (.lst (W'.map V.int)) := by rw [upd_ne Dl]; exact c6
          generalize upd H6 l (.lst []) = H7 at e7 cL c7
          clear e6 c6 k2 d2 hl
          have hbl := befs_le E h
          refine ⟨L, rfl, ⟨_, .inl (.inl cL)⟩, for_list (xs := (befs E h).map V.int) (fun j σ H8 => ∃ (Z : List Int) (y3 y4 y5 : Option V), σ = [some (.ref a), some (.ref M), some (.ref B), y3, y4, y5, some (.ref D), some (.int h), none, none] ∧
              ES H H8 M B E (mf E fun s => (cnt E P s : Int) - (((befs E h).take j).count s : Nat)) pt ∧ H8 D = some (.lst ((W' ++ Z).map V.int)) ∧ H8 L = some (.lst ((befs E h).map V.int)) ∧ Z.Nodup ∧ ∀ z, z ∈ Z ↔ z ∈ (befs E h).take j ∧ cnt E P z = ((befs E h).take j).count z)
            ⟨[], y3, y4, y5, rfl, ?_, by rw [List.append_nil]; exact c7, cL, List.nodup_nil, fun z => by simp⟩ (fun j σ H8 _ ⟨_, _, _, _, _, _, _, c, _⟩ => .inl (.inl c)) ?_ ?_⟩
          · have : (fun s => (cnt E P s : Int) - ((((befs E h).take 0).count s : Nat) : Int)) = fun s => ((cnt E P s : Nat) : Int) := by
              funext s
              simp
            rw [this]
            exact e7
          · rintro j x σ H8 hx ⟨Z, y3, y4, y5, rfl, e8, c8, cL8, zn, zm⟩
            have hj : j < (befs E h).length := by
              have := (List.getElem?_eq_some_iff.mp hx).1
              rwa [List.length_map] at this
            have hgj : (befs E h)[j]? = some (befs E h)[j] := List.getElem?_eq_getElem hj
            obtain rfl : V.int (befs E h)[j] = x := by
              rw [List.getElem?_map, hgj] at hx
              exact Option.some.inj hx
            have hs : (befs E h)[j] ∈ befs E h := List.getElem_mem hj
            have htk : (befs E h).take (j + 1) = (befs E h).take j ++ [(befs E h)[j]] := by rw [List.take_succ, hgj]; rfl
            have hcj : ∀ z, ((befs E h).take (j + 1)).count z ≤ (befs E h).count z := fun z => (List.take_sublist _ _).count_le z
            rw [htk] at hcj
            rw [htk]
            have hzl : Z.length ≤ E.length := by
              have := nodup_le zn fun z hz => List.mem_of_mem_take ((zm z).mp hz).1
              omega
            generalize (befs E h)[j] = s at hs hcj
            generalize (befs E h).take j = bs at hcj zm e8
            have hsE := mem_befs.mp hs
            have hs0 : ¬ cnt E [] s = 0 := fun z => (nomatch cnt_zero.mp z h hsE)
            have hcs1 : bs.count s + 1 ≤ cnt E P s := by
              have h1 := hcj s
              have h2 := hcs s
              rw [List.count_append] at h1
              simp at h1
              omega
            obtain ⟨kvs, k1, d1⟩ := e8.m
            have hk := len_mf d1
            refine ⟨.ref M, rfl, .int s, rfl, M, .int ((cnt E P s : Int) - (bs.count s : Nat)), rfl, ?_, _, 1, rfl, rfl, _, .inl ⟨kvs, Sum.inl s, k1, rfl, small1000 (by omega), rfl⟩, ?_⟩
            · have := DGet.k (k := (Sum.inl s : Key)) k1
              rw [d1.val s] at this
              unfold mf at this
              rw [if_neg hs0] at this
              exact this
            have e9 := e8.many (d1.put s (.int ((cnt E P s : Int) - (bs.count s : Nat) - 1)))
            have hf : (fun x => if x = s then some (V.int ((cnt E P s : Int) - (bs.count s : Nat) - 1)) else mf E (fun s => (cnt E P s : Int) - (bs.count s : Nat)) x) = mf E fun s' => (cnt E P s' : Int) - ((bs ++ [s]).count s' : Nat) := by
              funext x
              unfold mf
              simp only [List.count_append]
              by_cases hxs : x = s
              · subst hxs
                rw [if_pos rfl, if_neg hs0]
                simp
                omega
              · rw [if_neg hxs]
                have : ¬ s = x := fun z => hxs z.symm
                simp [List.count_cons, this]
            rw [hf] at e9
            have c9 : (upd H8 M (.dK (putK kvs (Sum.inl s) (.int ((cnt E P s : Int) - (bs.count s : Nat) - 1))))) D = some (.lst ((W' ++ Z).map V.int)) := by rw [upd_ne D2]; exact c8
            have cL9 : (upd H8 M (.dK (putK kvs (Sum.inl s) (.int ((cnt E P s : Int) - (bs.count s : Nat) - 1))))) L = some (.lst ((befs E h).map V.int)) := by rw [upd_ne LM]; exact cL8
            generalize (upd H8 M (.dK (putK kvs (Sum.inl s) (.int ((cnt E P s : Int) - (bs.count s : Nat) - 1))))) = H9 at e9 c9 cL9
            obtain ⟨kvs9, k9, d9⟩ := e9.m
            have hv : DGet H9 M (.int s) (some (.int ((cnt E P s : Int) - ((bs ++ [s]).count s : Nat)))) := by
              have := DGet.k (k := (Sum.inl s : Key)) k9
              rw [d9.val s] at this
              unfold mf at this
              rw [if_neg hs0] at this
              exact this
            have hmem : ∀ z, z ≠ s → ((z ∈ Z ↔ z ∈ bs ++ [s] ∧ cnt E P z = (bs ++ [s]).count z)) := fun z hz => by
              rw [zm z, List.mem_append, List.count_append]
              have : ¬ s = z := fun x => hz x.symm
              simp [hz, List.count_cons, this]
            have hct : (bs ++ [s]).count s = bs.count s + 1 := by rw [List.count_append]; simp
            have hsZ : s ∉ Z := fun z => by
              have := ((zm s).mp z).2
              omega
            refine ⟨.ref M, rfl, .int s, rfl, M, _, rfl, hv, rfl, _, rfl, ite2 (fun h1 => ?_) (fun h1 => ?_)⟩
            · have h0 : cnt E P s = (bs ++ [s]).count s := by
                have := of_decide_eq_true h1
                injection this with this
                omega
              refine ⟨.ref D, rfl, .inl ⟨rfl, _, .inl (.inl c9)⟩, .int s, rfl, D, _, _, rfl, rfl, c9, ?_, ?_⟩
              · rw [List.length_map, List.length_append]
                exact small1000 (by omega)
              refine ⟨Z ++ [s], _, _, _, rfl, e9.other D1 D2 D3 D4 fun a ha => upd_ne ha, ?_, by rw [upd_ne LD]; exact cL9, ?_, fun z => ?_⟩
              · rw [upd_same, ← List.append_assoc, List.map_append, List.map_append]
                simp
              · refine List.nodup_append.mpr ⟨zn, List.nodup_cons.mpr ⟨(fun x => nomatch x), List.nodup_nil⟩, fun x hx y hy hxy => ?_⟩
                rw [List.mem_singleton] at hy
                subst hy hxy
                exact hsZ hx
              · by_cases hz : z = s
                · subst hz
                  simp [h0]
                · rw [← hmem z hz, List.mem_append]
                  simp [hz]
            · have h0 : ¬ cnt E P s = (bs ++ [s]).count s := fun z => h1 (by rw [z]; simp)
              refine ⟨Z, _, _, _, rfl, e9, c9, cL9, zn, fun z => ?_⟩
              by_cases hz : z = s
              · subst hz
                exact ⟨fun x => absurd x hsZ, fun x => absurd x.2 h0⟩
              · exact hmem z hz
          · rintro σ H8 ⟨Z, y3, y4, y5, rfl, e8, c8, cL8, zn, zm⟩
            rw [List.length_map, List.take_length] at e8
            simp only [List.length_map, List.take_length] at zm
            refine ⟨_, ?_, P ++ [h], W' ++ Z, y3, y4, y5, some (.int h), rfl, rfl, kn.step zn zm, ?_, c8⟩
            · rw [List.length_append, List.length_singleton]
              omega
            · have : (fun s => (cnt E P s : Int) - ((befs E h).count s : Nat)) = fun s => ((cnt E (P ++ [h]) s : Nat) : Int) := by
                funext s
                have := hcs s
                omega
              rw [← this]
              exact e8
end
end K24

/-! set(list of ints): its size is at most the length of any list that holds all its members. -/
namespace KS
open PySem PySem.Spec PyProof.Rows L2
theorem nodup_leK {α : Type} [DecidableEq α] : ∀ (l m : List α), l.Nodup → (∀ x ∈ l, x ∈ m) → l.length ≤ m.length
  | [], _, _, _ => Nat.zero_le _
  | x :: l, m, nd, h => by
    obtain ⟨m1, m2, rfl⟩ := List.append_of_mem (h x List.mem_cons_self)
    have nd' := List.nodup_cons.mp nd
    have := nodup_leK l (m1 ++ m2) nd'.2 fun y hy => by
      rcases List.mem_append.mp (h y (List.mem_cons_of_mem _ hy)) with z | z
      · exact List.mem_append_left _ z
      · rcases List.mem_cons.mp z with rfl | z
        · exact absurd hy nd'.1
        · exact List.mem_append_right _ z
    simp at this ⊢
    omega
theorem setR_le {w : World} {h : Heap} {a : Addr} {S : Int → Bool} {n : Nat} (R : SetR w h a S n) {M : List Int} (hM : ∀ k, S k = true → k ∈ M) : n ≤ M.length := by
  obtain ⟨o, es, ep, t, _, _, _, _, nd, hs, _, _, hn, _⟩ := R
  have := nodup_leK _ M nd fun k hk => hM k ((hs k).mpr hk)
  rw [List.length_map, Array.length_toList] at this
  omega
def rSetJ (K : PySem.W.Frag) (w : World) : List V → Hp → VK → Prop := fun xs H Q => ∃ (l : Addr) (ns : List Int), xs = [V.ref l] ∧ SqL K H l (ns.map V.int) ∧ ns.length ≤ 4000 ∧
  ∀ a c, H a = none → (∀ M : List Int, (∀ x ∈ ns, x ∈ M) → c ≤ M.length) → Q (.ref a) (upd H a (SetO w a (fun j => decide (j ∈ ns)) c))
variable {X : Cx}
theorem cr_setJ (hc : X.calm = true) : CallR X (.type "set") (rSetJ X.K X.w) := by
  intro pins s σ H xs us Q I r h
  obtain ⟨l, ns, rfl, hl, hf, q⟩ := h
  rw [Vals.ref1 r]
  obtain ⟨its, rv, pl, hz⟩ := I.list hl
  have hn : H s.heap.objs.size = none := I.hok.fresh (Nat.le_refl _)
  refine set_of_ints (P := X.prog) (w := X.w) ns (I.ok.hd hc) pl.isList (by simpa using ints_of_vals rv) (by unfold scanBound; omega) fun h' tk c R hc' k => ?_
  exact ⟨.ref s.heap.objs.size, upd H s.heap.objs.size (SetO X.w s.heap.objs.size (fun j => decide (j ∈ ns)) c), I.laid (t' := tk) k (Nat.le_refl _) (setO_new R), rfl, q _ c hn fun M hM => setR_le R fun k hk => hM k (of_decide_eq_true hk)⟩
/-- sorted(set(xs)), fewer than 64 different ints -/
def rSS (K : PySem.W.Frag) : List V → Hp → VK → Prop := fun xs H Q => ∃ (l : Addr) (ns M : List Int), xs = [V.ref l] ∧ SqL K H l (ns.map V.int) ∧ ns.length ≤ 4000 ∧ (∀ x ∈ ns, x ∈ M) ∧ M.length < 64 ∧
  ∀ (ms : List Int) (p : Addr) (H' : Hp), ms.Pairwise (· < ·) → (∀ k, k ∈ ms ↔ k ∈ ns) → ms.length ≤ M.length → Same H H' → H p = none → H' p = none → Q (.ref p) (upd H' p (.lst (ms.map V.int)))
end KS

namespace K24
open PySem PySem.Spec L2 KS GL LB K24m
open PyProof.Rows hiding cnt
section
variable {P : Program} {w : World} {K : PySem.W.Frag} {mg : Str → Option Value} {base : Heap}
def spHas (K : PySem.W.Frag) : Sp := fun vs H Q _ => ∃ (a : Addr) (rs : List (Addr × Row)), vs = [.ref a] ∧ SqT K H a (rowRefs rs) ∧ RowsAt K H rs ∧ rs.length ≤ 76 ∧
  ∀ (b : Bool) (H' : Hp), Same H H' → (b = true ↔ Cyc (edges (rs.map (·.2)))) → Q (.bl b) H'
theorem scHas : FnScope ["arrows"] ["arrows"] (defScope sHas) := ⟨rfl, rfl, rfl, by decide +kernel, rfl, by decide +kernel, by decide +kernel⟩
theorem ok_has {f : Addr} {fd : FuncData} (F : Fun K "has_cycle" "has_cycle" sHas f fd) (h_end : Has P w K mg base "endless_states" 1 ["arrows"] (spEnd K)) : FnOk P w K mg base CX0 2 f fd ["arrows"] (spHas K) := by
  refine F.ok scHas (fun vs H Q E h => ?_) (fun cdv A outer s H vs Q E hr h => ?_)
  · obtain ⟨_, _, rfl, _⟩ := h
    rfl
  · obtain ⟨a, rs, rfl, hS, hR, hlen, q⟩ := h
    have hu := hu_of hr
    have hu64 := hr.units
    refine ⟨_, (pss_one (ps_ret (pe_cmpR (op_neD0 (Nat.lt_of_le_of_lt (Nat.le_add_right _ 64) hu64)) (pe_has h_end (hr.mono (by decide)) rfl (pa_cons (pv 0) pa_nil)) pe_dnewK (nomark _)))), ?_⟩
    refine ⟨.ref a, rfl, a, rs, rfl, hS, hR, hlen, fun p kvs H' S e1 hk b hb => ?_⟩
    have pb : p ≠ b := ne_of_none e1 hb
    refine ⟨p, b, kvs, rfl, rfl, by rw [upd_ne pb]; exact e1, upd_same, q _ _ (S.trans (same_upd hb)) ?_⟩
    rw [← hk]
    cases kvs <;> simp
/-! ### the leads -/
def lf (ks : List Int) (pt : Int → Addr) : Int → Option V := fun s => if s ∈ ks then some (.ref (pt s)) else none
/-- sorted(set(l)) -/
theorem ss_go {H : Hp} {l : Addr} {ns M : List Int} {Q : VK} (hS : SqL K H l (ns.map V.int)) (h1 : ns.length ≤ 4000) (hM : ∀ x ∈ ns, x ∈ M) (h2 : M.length < 64)
    (q : ∀ (ms : List Int) (p : Addr) (H' : Hp), ms.Nodup → (∀ k, k ∈ ms ↔ k ∈ ns) → ms.length ≤ M.length → Same H H' → H p = none → H' p = some (.lst (ms.map V.int)) → Q (.ref p) H') :
    rSetJ K w [.ref l] H fun v H1 => rSortedSet w [v] H1 Q := by
  refine ⟨l, ns, rfl, hS, h1, fun a c ha hc => ⟨a, _, c, rfl, upd_same, Nat.lt_of_le_of_lt (hc M hM) h2, fun ms p pw hm hl hp => ?_⟩⟩
  refine q ms p _ (pw.imp fun h => Int.ne_of_lt h) (fun k => by rw [hm k, decide_eq_true_eq]) (by rw [hl]; exact hc M hM) ((same_upd ha).trans (same_upd hp)) ((same_upd ha).free hp) upd_same
def spFur (K : PySem.W.Frag) : Sp := fun vs H Q _ => ∃ (d : Addr) (x : Int) (kvs : List (Key × V)) (pt : Int → Addr) (ks M : List Int) (L : Int → List Int), vs = [.ref d, .int x] ∧ Rd H d (.dK kvs) ∧ DM kvs (lf ks pt) ∧ (∀ s ∈ ks, H (pt s) = some (.lst ((L s).map V.int))) ∧ x ∈ ks ∧ M.length ≤ 31 ∧
  (∀ s ∈ ks, (L s).length ≤ 31 ∧ ∀ t ∈ L s, t ∈ M) ∧
  ∀ (ms : List Int) (p : Addr) (H' : Hp), ms.Nodup → (∀ t, t ∈ ms ↔ t ∈ L x ∨ ∃ m ∈ L x, m ∈ ks ∧ t ∈ L m) → Same H H' → H p = none → H' p = some (.lst (ms.map V.int)) → Q (.ref p) H'
theorem scFurther : FnScope ["_law_leads", "_law_here", "_law_found", "_law_middle"] ["_law_leads", "_law_here"] (defScope sFurther) := ⟨rfl, rfl, rfl, by decide +kernel, rfl, by decide +kernel, by decide +kernel⟩
theorem ok_further {f : Addr} {fd : FuncData} (F : Fun K "_law_further" "_law_further" sFurther f fd) (T : Blt mg) : FnOk P w K mg base CX0 1 f fd ["_law_leads", "_law_here"] (spFur K) := by
  refine F.ok scFurther (fun vs H Q E h => ?_) (fun cdv A outer s H vs Q E hr h => ?_)
  · obtain ⟨_, _, _, _, _, _, _, rfl, _⟩ := h
    rfl
  · obtain ⟨d, x, kvs, pt, ks, M, L, rfl, hd, dm, hl, hx, hM, hL, q⟩ := h
    have hu := hu_of hr
    refine ⟨_, (pss_cons (ps_set (i := 2) scFurther.nd rfl (Or.inl rfl) (pe_callTy call_list_of (by rfl) T.b_list (by decide +kernel) (pa_cons (pe_dget hu (pv 0) (pv 1) (fun _ _ => rfl)) pa_nil)))
  (pss_cons (ps_for PassesOwn.never rfl (pi_list (pe_dget hu (pv 0) (pv 1) (fun _ _ => rfl))) (pg_name (i := 3) scFurther.nd rfl (Or.inl rfl))
    (pss_one (ps_expr (pe_bm PySem.F.plainAttrs_list PySem.F.slot_list_extend PySem.F.type_list_extend mt_extend (pv 2) (pa_cons (pe_dget2 hu (pv 0) (pv 3) (pe_lst pa_nil) ⟨rfl, rfl, rfl, rfl⟩) pa_nil)))))
  (pss_one (ps_ret (pe_callB (cr_sortedSet rfl) (by rfl) T.b_sorted (by decide +kernel) (pa_cons (pe_callTy (cr_setJ rfl) (by rfl) T.b_set (by decide +kernel) (pa_cons (pv 2) pa_nil)) pa_nil)))))), ?_⟩
    have rd : ∀ {H' : Hp}, Same H H' → Rd H' d (.dK kvs) := fun S => hd.elim (fun e => .inl (S _ _ e)) fun ⟨o, e⟩ => .inr ⟨o, S _ _ e⟩
    have dg : ∀ {H' : Hp} (z : Int), Same H H' → DGet H' d (.int z) (lf ks pt z) := fun z S => .inl ⟨kvs, Sum.inl z, rd S, rfl, (dm.val z).symm⟩
    have hxs : lf ks pt x = some (.ref (pt x)) := if_pos hx
    have hlx := hl x hx
    refine ⟨.ref d, rfl, .int x, rfl, d, _, rfl, hxs ▸ dg x (Same.refl _), pt x, _, rfl, .inl (.inl (.inl hlx)), fun l hl0 => ?_⟩
    have S1 := same_upd (o := .lst ((L x).map V.int)) hl0
    refine ⟨.ref d, rfl, .int x, rfl, d, _, rfl, hxs ▸ dg x S1, pt x, rfl, ⟨_, .inl (.inl (S1 _ _ hlx))⟩, for_list (xs := (L x).map V.int) (fun j σ H' => ∃ (y3 : Option V) (acc : List Int), σ = [some (.ref d), some (.int x), some (.ref l), y3] ∧ Same H H' ∧ H' l = some (.lst (acc.map V.int)) ∧ acc.length ≤ 31 + 31 * j ∧ (∀ t, t ∈ acc ↔ t ∈ L x ∨ ∃ m ∈ (L x).take j, m ∈ ks ∧ t ∈ L m))
      ⟨none, L x, rfl, S1, upd_same, (hL x hx).1, fun t => by simp⟩ (fun j σ H' _ ⟨_, _, _, S, _⟩ => .inl (.inl (S _ _ hlx))) ?_ ?_⟩
    · rintro j v σ H2 hv ⟨y3, acc, rfl, S, e1, ha, hm⟩
      have hj : j < (L x).length := by
        have := (List.getElem?_eq_some_iff.mp hv).1
        rwa [List.length_map] at this
      have hgj : (L x)[j]? = some (L x)[j] := List.getElem?_eq_getElem hj
      obtain rfl : V.int (L x)[j] = v := by
        rw [List.getElem?_map, hgj] at hv
        exact Option.some.inj hv
      have htk : (L x).take (j + 1) = (L x).take j ++ [(L x)[j]] := by rw [List.take_succ, hgj]; rfl
      have hj31 := (hL x hx).1
      rw [htk]
      generalize (L x)[j] = z
      refine ⟨.ref l, rfl, .inl ⟨rfl, _, .inl (.inl e1)⟩, .ref d, rfl, d, rfl, .inl ⟨kvs, rd S⟩, .int z, rfl, Nat.zero_le _, fun g hg => ⟨lf ks pt z, dg z (S.trans (same_upd hg)), ?_⟩⟩
      have lg : l ≠ g := ne_of_none e1 hg
      have S2 := S.trans (same_upd (o := .lst []) hg)
      obtain ⟨b, zs, hb, eb, hz, hzm⟩ : ∃ (b : Addr) (zs : List Int), (lf ks pt z).getD (.ref g) = .ref b ∧ (upd H2 g (.lst [])) b = some (.lst (zs.map V.int)) ∧ zs.length ≤ 31 ∧ ∀ t, t ∈ zs ↔ z ∈ ks ∧ t ∈ L z := by
        unfold lf
        by_cases hzk : z ∈ ks
        · exact ⟨pt z, L z, by rw [if_pos hzk]; rfl, S2 _ _ (hl z hzk), (hL z hzk).1, fun t => by simp [hzk]⟩
        · exact ⟨g, [], by rw [if_neg hzk]; rfl, upd_same, Nat.zero_le _, fun t => by simp [hzk]⟩
      rw [hb]
      refine ⟨l, b, _, _, rfl, rfl, by rw [upd_ne lg]; exact e1, eb, ?_, _, acc ++ zs, rfl, ?_, by rw [upd_same, List.map_append], ?_, fun t => ?_⟩
      · rw [List.length_map, List.length_map]
        exact Nat.le_of_lt (by rw [sizeLine_eq]; omega)
      · exact fun b u hb => by rw [upd_ne (ne_of_none hb hl0)]; exact S2 b u hb
      · rw [List.length_append]
        omega
      · rw [List.mem_append, hm t, hzm t]
        constructor
        · rintro ((h | ⟨m, h1, h2⟩) | h)
          · exact .inl h
          · exact .inr ⟨m, List.mem_append_left _ h1, h2⟩
          · exact .inr ⟨z, List.mem_append_right _ (List.mem_singleton.mpr rfl), h⟩
        · rintro (h | ⟨m, h1, h2⟩)
          · exact .inl (.inl h)
          · rcases List.mem_append.mp h1 with h | h
            · exact .inl (.inr ⟨m, h, h2⟩)
            · rw [List.mem_singleton.mp h] at h2
              exact .inr h2
    · rintro σ H2 ⟨y3, acc, rfl, S, e1, ha, hm⟩
      rw [List.length_map] at ha
      simp only [List.length_map, List.take_length] at hm
      have h31 := (hL x hx).1
      refine ⟨.ref l, rfl, ss_go (M := M) (.inl (.inl e1)) (by omega) (fun t ht => ?_) (by omega) fun ms p H3 nd hms hlen S3 hp e3 => ?_⟩
      · rcases (hm t).mp ht with h | ⟨m, h1, h2, h3⟩
        · exact (hL x hx).2 t h
        · exact (hL m h2).2 t h3
      · exact q ms p H3 nd (fun t => by rw [hms, hm]) (S.trans S3) (S.free hp) e3
end
end K24

namespace K24
open PySem PySem.Spec L2 KS GL LB K24m
open PyProof.Rows hiding cnt
theorem inV_ints (s : Int) : ∀ ns : List Int, inV (.int s) (ns.map V.int) = decide (s ∈ ns) := by
  intro ns
  unfold inV
  rw [List.any_map, Bool.eq_iff_iff, List.any_eq_true, decide_eq_true_eq]
  constructor
  · rintro ⟨x, hx, h⟩
    have : x = s := by simpa [eqV] using h
    exact this ▸ hx
  · intro h
    exact ⟨s, h, by simp [eqV]⟩
theorem flat_ints : ∀ ns : List Int, (ns.map V.int).all flatV = true
  | [] => rfl
  | n :: ns => by
    rw [List.map_cons, List.all_cons, flat_ints ns]
    rfl
theorem paired_mono {α β : Type} {F G : α → β → Prop} : ∀ {l₁ : List α} {l₂ : List β}, Paired F l₁ l₂ → (∀ a b, F a b → G a b) → Paired G l₁ l₂
  | _, _, .nil, _ => .nil
  | _, _, .cons h t, g => .cons (g _ _ h) (paired_mono t g)
/-- pairs of different keys: dict keeps them as they are -/
theorem mergeK_nd : ∀ (more kvs : List (Key × V)), ((kvs ++ more).map (·.1)).Nodup → mergeK kvs more = kvs ++ more
  | [], kvs, _ => (List.append_nil kvs).symm
  | p :: more, kvs, nd => by
    show mergeK (putK kvs p.1 p.2) more = _
    have hn : valV kvs p.1 = none := by
      cases e : valV kvs p.1 with
      | none => rfl
      | some x =>
        unfold valV at e
        obtain ⟨q, hq, _⟩ := Option.map_eq_some_iff.mp e
        have h1 := List.mem_of_find?_eq_some hq
        have h2' := List.find?_some hq
        have h2 : q.1 = p.1 := of_decide_eq_true h2'
        rw [List.map_append] at nd
        exact absurd h2 ((List.nodup_append.mp nd).2.2 q.1 (List.mem_map.mpr ⟨q, h1, rfl⟩) p.1 (List.mem_map.mpr ⟨p, List.mem_cons_self, rfl⟩))
    rw [putK_new p.2 hn, mergeK_nd more (kvs ++ [(p.1, p.2)]) (by simpa using nd)]
    simp
/-- the dict of leads and its lists -/
structure LS (H0 H : Hp) (D : Addr) (kvs : List (Key × V)) (ks : List Int) (pt : Int → Addr) (L : Int → List Int) : Prop where
  same : Same H0 H
  fd : H0 D = none
  at_ : H D = some (.dK kvs)
  dm : DM kvs (lf ks pt)
  l : ∀ s ∈ ks, H (pt s) = some (.lst ((L s).map V.int))
section
variable {H0 H : Hp} {D : Addr} {kvs : List (Key × V)} {ks : List Int} {pt : Int → Addr} {L : Int → List Int}
theorem LS.neD (e : LS H0 H D kvs ks pt L) {s : Int} (h : s ∈ ks) : pt s ≠ D := fun x => by
  have := e.l s h
  rw [x, e.at_] at this
  cases this
theorem LS.more {H' : Hp} (e : LS H0 H D kvs ks pt L) (S : Same H H') : LS H0 H' D kvs ks pt L := ⟨e.same.trans S, e.fd, S _ _ e.at_, e.dm, fun s h => S _ _ (e.l s h)⟩
theorem LS.put (e : LS H0 H D kvs ks pt L) {s : Int} {p : Addr} {ms : List Int} {H' : Hp} (S : Same H H') (hp : H p = none) (hm : H' p = some (.lst (ms.map V.int))) :
    LS H0 (upd H' D (.dK (putK kvs (Sum.inl s) (.ref p)))) D (putK kvs (Sum.inl s) (.ref p)) (s :: ks) (fun x => if x = s then p else pt x) (fun x => if x = s then ms else L x) := by
  have pD : p ≠ D := fun x => by rw [x, e.at_] at hp; cases hp
  refine ⟨fun a u ha => ?_, e.fd, upd_same, (e.dm.put s (.ref p)).congr fun x => ?_, fun x hx => ?_⟩
  · rw [upd_ne (ne_of_none ha e.fd)]
    exact S _ _ (e.same a u ha)
  · unfold lf
    by_cases h : x = s
    · subst h
      simp
    · simp [h]
  · by_cases h : x = s
    · simp only [h, if_true]
      rw [upd_ne pD]
      exact hm
    · simp only [h, if_false]
      have hk : x ∈ ks := (List.mem_cons.mp hx).resolve_left h
      rw [upd_ne (e.neD hk)]
      exact S _ _ (e.l x hk)
end
/-- a list of the keys' values, nothing made -/
theorem sum_lc {te : TE} {H : Hp} {D : Addr} {kvs : List (Key × V)} {ks : List Int} {x0 x2 y3 y4 y5 : Option V} {Q : VK} (hD : H D = some (.dK kvs)) (hk : kvs.map (fun p => keyI p.1) = ks) (hi : ∀ p ∈ kvs, ∃ s : Int, p.1 = Sum.inl s) (hz : ks.length < sizeLine) (g : Int → V)
    (hte : ∀ (s : Int) (H' : Hp) (od : Obj) (R : VK), s ∈ ks → H' D = some (.frz od (.dK kvs)) → (∀ b, b ≠ D → H b ≠ none → H' b = H b) → R (g s) H' → te [x0, some (.ref D), x2, some (.int s), y4, y5] H' R)
    (q : ∀ T, H T = none → Q (.ref T) (upd H T (.lst (ks.map g)))) : tLockE (tLc (iKeys (tVar 1)) (gName 3) tYes te [3]) [x0, some (.ref D), x2, y3, y4, y5] H Q := by
  refine ⟨D, .dK kvs, hD, trivial, fun od => ⟨.ref D, rfl, D, od, rfl, .inl ⟨kvs, upd_same, fun T hT => ?_⟩⟩⟩
  have TD : T ≠ D := fun z => by rw [z, upd_same] at hT; cases hT
  rw [upd_ne TD] at hT
  subst hk
  refine lc_it walk_keys (fun i H' => H' = upd (upd H D (.frz od (.dK kvs))) T (.lst (((kvs.map fun p => keyI p.1).take i).map g))) rfl (fun i H' _ h => by rw [h, upd_ne TD.symm, upd_same]) ?_ ?_
  · rintro i x H2 H2' hlt rfl ⟨rfl, k, v, hkv, rfl⟩
    obtain ⟨z, hz'⟩ := hi _ (List.mem_of_getElem? hkv)
    dsimp only at hz'
    subst hz'
    have hget : (kvs.map fun p => keyI p.1)[i]? = some z := by rw [List.getElem?_map, hkv]; rfl
    have htk : (kvs.map fun p => keyI p.1).take (i + 1) = (kvs.map fun p => keyI p.1).take i ++ [z] := by rw [List.take_succ, hget]; rfl
    rw [htk, List.map_append]
    refine ⟨rfl, ?_⟩
    unfold tYes
    refine iteT ?_
    refine hte z _ od _ (List.mem_of_getElem? hget) (by rw [upd_ne TD.symm, upd_same]) (fun b h1 h2 => ?_) ⟨_, upd_same, ?_, by rw [upd_upd]; rfl⟩
    · rw [upd_ne fun e => h2 (by rw [e]; exact hT), upd_ne h1]
    · have := List.length_take_le i (kvs.map fun p => keyI p.1)
      have := List.length_take_le' i (kvs.map fun p => keyI p.1)
      rw [List.length_map]
      omega
  · rintro H2 rfl
    have hW0 : ((kvs.map fun p => keyI p.1).take kvs.length) = kvs.map fun p => keyI p.1 := by
      rw [← List.length_map (f := fun p : Key × V => keyI p.1) (as := kvs), List.take_length]
    refine ⟨by rw [upd_ne TD.symm, upd_same], ?_⟩
    have : upd (upd (upd H D (.frz od (.dK kvs))) T (.lst (((kvs.map fun p => keyI p.1).take kvs.length).map g))) D (.dK kvs) = upd H T (.lst ((kvs.map fun p => keyI p.1).map g)) := by
      rw [hW0]
      funext a
      by_cases h : a = D
      · rw [h, upd_same, upd_ne TD.symm, hD]
      · by_cases h2 : a = T
        · rw [upd_ne h, h2, upd_same, upd_same]
        · rw [upd_ne h, upd_ne h2, upd_ne h2, upd_ne h]
    rw [this]
    exact q T hT
end K24

namespace K24
open PySem PySem.Spec L2 KS GL LB K24m
open PyProof.Rows hiding cnt
theorem edges_mem {M : List Int} : ∀ {l : List Row}, (∀ r ∈ l, r.2.2 = -1 ∨ r.2.2 ∈ M) → ∀ e ∈ edges l, e.2 ∈ M
  | [], _, e, he => (nomatch he)
  | r :: l, h, e, he => by
    have ih := edges_mem (l := l) fun x hx => h x (List.mem_cons_of_mem _ hx)
    unfold edges at he
    by_cases h1 : r.2.2 = -1
    · rw [if_pos h1] at he
      exact ih e he
    · rw [if_neg h1] at he
      rcases List.mem_cons.mp he with rfl | he
      · exact (h r List.mem_cons_self).resolve_left h1
      · exact ih e he
theorem total_cast (L : Int → List Int) : ∀ ks : List Int, (ks.map fun s => ((L s).length : Int)).sum = (total ks L : Nat)
  | [] => rfl
  | s :: ks => by
    have := total_cast L ks
    unfold total at this ⊢
    rw [List.map_cons, List.sum_cons, List.map_cons, List.sum_cons, this]
    omega
theorem nodup_of_map {α β : Type} (f : α → β) : ∀ {l : List α}, (l.map f).Nodup → l.Nodup
  | [], _ => List.nodup_nil
  | x :: l, h => by
    rw [List.map_cons, List.nodup_cons] at h
    exact List.nodup_cons.mpr ⟨fun hx => h.1 (List.mem_map.mpr ⟨x, hx, rfl⟩), nodup_of_map f h.2⟩
section
variable {P : Program} {w : World} {K : PySem.W.Frag} {mg : Str → Option Value} {base : Heap}
def spRound (K : PySem.W.Frag) : Sp := fun vs H Q _ => ∃ (a : Addr) (rs : List (Addr × Row)) (M : List Int), vs = [.ref a] ∧ SqT K H a (rowRefs rs) ∧ RowsAt K H rs ∧ rs.length ≤ 76 ∧ M.length ≤ 31 ∧ (∀ e ∈ edges (rs.map (·.2)), e.2 ∈ M) ∧
  ∀ (b : Bool) (H' : Hp), Same H H' → (b = true ↔ Cyc (edges (rs.map (·.2)))) → Q (.bl b) H'
theorem scRound : FnScope ["_law_some_here", "_law_leads", "_law_size", "_law_here", "_law_sign", "_law_there"] ["_law_some_here"] (defScope sRound) := ⟨rfl, rfl, rfl, by decide +kernel, rfl, by decide +kernel, by decide +kernel⟩
theorem ok_round {f : Addr} {fd : FuncData} (F : Fun K "_law_is_round" "_law_is_round" sRound f fd) (T : Blt mg) (h_law_further : Has P w K mg base "_law_further" 1 ["_law_leads", "_law_here"] (spFur K)) : FnOk P w K mg base CX0 2 f fd ["_law_some_here"] (spRound K) := by
  refine F.ok scRound (fun vs H Q E h => ?_) (fun cdv A outer s H vs Q E hr h => ?_)
  · obtain ⟨_, _, _, rfl, _⟩ := h
    rfl
  · obtain ⟨a, rs, M, rfl, hS, hR, hlen, hM, hEM, q⟩ := h
    have hu := hu_of hr
    have hu64 := hr.units
    refine ⟨_, (pss_cons (ps_asg (pe_tup (pa_cons pe_dnewK (pa_cons (pe_un un_neg pe_int) pa_nil))) (pg_tup rfl (pgs_cons (pg_name (i := 1) scRound.nd rfl (Or.inr rfl)) (pgs_cons (pg_name (i := 2) scRound.nd rfl (Or.inl rfl)) pgs_nil))))
  (pss_cons (ps_for PassesOwn.never rfl (pi_tup (pv 0)) (pg_tup rfl (pgs_cons (pg_name (i := 3) scRound.nd rfl (Or.inl rfl)) (pgs_cons (pg_name (i := 4) scRound.nd rfl (Or.inl rfl)) (pgs_cons (pg_name (i := 5) scRound.nd rfl (Or.inl rfl)) pgs_nil))))
    (pss_one (ps_if (pt_cmpR op_ne (pv 5) (pe_un un_neg pe_int) (nomark _))
    (pss_one (ps_dput hu (pv 1) (pv 3) (pe_callB (cr_sortedSet rfl) (by rfl) T.b_sorted (by decide +kernel) (pa_cons (pe_callTy (cr_setJ rfl) (by rfl) T.b_set (by decide +kernel) (pa_cons (pe_op op_cat (pe_dget2 hu (pv 1) (pv 3) (pe_lst pa_nil) ⟨rfl, rfl, rfl, rfl⟩) (pe_lst (pa_cons (pv 5) pa_nil))) pa_nil)) pa_nil)) rfl))
    pss_nil)))
  (pss_cons (ps_while PassesOwn.never (pt_cmpR op_ne (pv 2) (pe_callB (cr_sum rfl) (by rfl) T.b_sum (by decide +kernel) (pa_cons (pe_lock (pe_lc (own := [("_law_here", 3)]) (g := gName 3) (tt := tYes) rfl scRound.nd (pi_keys (pv 1)) (blkOk_by (own := [("_law_here", 3)]) (N := ["_law_some_here", "_law_leads", "_law_size", "_law_here", "_law_sign", "_law_there"]) (sc := defScope sRound) (by decide +kernel)) (fun _ _ _ _ _ => (pg_name (i := 3) scRound.nd rfl (Or.inl rfl))) (fun _ _ _ _ _ => pts_nil) (fun _ _ _ _ _ => (pe_callB (r := fun xs H Q => ∃ p ys, xs = [.ref p] ∧ (SqL K H p ys ∨ SqT K H p ys) ∧ Q (.int ys.length) H) call_len_seq (by rfl) T.b_len PySem.boot_len (pa_cons (pe_dget hu (pv 1) (pv 3) (fun _ _ => rfl)) pa_nil))))) pa_nil)) (nomark _))
    (pss_cons (ps_set (i := 2) scRound.nd rfl (Or.inl rfl) (pe_callB (cr_sum rfl) (by rfl) T.b_sum (by decide +kernel) (pa_cons (pe_lock (pe_lc (own := [("_law_here", 3)]) (g := gName 3) (tt := tYes) rfl scRound.nd (pi_keys (pv 1)) (blkOk_by (own := [("_law_here", 3)]) (N := ["_law_some_here", "_law_leads", "_law_size", "_law_here", "_law_sign", "_law_there"]) (sc := defScope sRound) (by decide +kernel)) (fun _ _ _ _ _ => (pg_name (i := 3) scRound.nd rfl (Or.inl rfl))) (fun _ _ _ _ _ => pts_nil) (fun _ _ _ _ _ => (pe_callB (r := fun xs H Q => ∃ p ys, xs = [.ref p] ∧ (SqL K H p ys ∨ SqT K H p ys) ∧ Q (.int ys.length) H) call_len_seq (by rfl) T.b_len PySem.boot_len (pa_cons (pe_dget hu (pv 1) (pv 3) (fun _ _ => rfl)) pa_nil))))) pa_nil)))
  (pss_one (ps_set (i := 1) scRound.nd rfl (Or.inr rfl) (pe_callTy (call_dictP rfl) (by rfl) T.b_dict (by decide +kernel) (pa_cons (pe_lock (pe_lc (own := [("_law_here", 3)]) (g := gName 3) (tt := tYes) rfl scRound.nd (pi_keys (pv 1)) (blkOk_by (own := [("_law_here", 3)]) (N := ["_law_some_here", "_law_leads", "_law_size", "_law_here", "_law_sign", "_law_there"]) (sc := defScope sRound) (by decide +kernel)) (fun _ _ _ _ _ => (pg_name (i := 3) scRound.nd rfl (Or.inl rfl))) (fun _ _ _ _ _ => pts_nil) (fun _ _ _ _ _ => (pe_tup (pa_cons (pv 3) (pa_cons (pe_has (sp := spFur K) h_law_further (hr.mono (by decide)) rfl (pa_cons (pv 1) (pa_cons (pv 3) pa_nil))) pa_nil)))))) pa_nil))))))
  (pss_one (ps_ret (pe_cmpR (op_neD hu64) (pe_lock (pe_lc (own := [("_law_here", 3)]) (g := gName 3) rfl scRound.nd (pi_keys (pv 1)) (blkOk_by (own := [("_law_here", 3)]) (N := ["_law_some_here", "_law_leads", "_law_size", "_law_here", "_law_sign", "_law_there"]) (sc := defScope sRound) (by decide +kernel)) (fun _ _ _ _ _ => (pg_name (i := 3) scRound.nd rfl (Or.inl rfl))) (fun _ _ _ _ _ => pts_one (pt_cmpR (r := rIn K false) op_in_seq (pv 3) (pe_dget hu (pv 1) (pv 3) (fun _ _ => rfl)) (by rfl))) (fun _ _ _ _ _ => (pv 3)))) (pe_lst pa_nil) (nomark _))))))), ?_⟩
    refine fun D hD => ⟨1, rfl, (show 2 ≤ sizeLine by decide), fun t ht => ⟨t, _, rfl, .inl (.inl upd_same), rfl, _, _, rfl, _, _, rfl, rfl, ?_⟩⟩
    have Dt : D ≠ t := fun z => by rw [← z, upd_same] at ht; cases ht
    have ht' : H t = none := (same_upd hD).free ht
    have L0 : LS H (upd (upd H D (.dK [])) t (.tup [.ref D, .int (-1)])) D [] [] (fun _ => 0) (fun _ => []) := ⟨(same_upd hD).trans (same_upd ht), hD, by rw [upd_ne Dt, upd_same], DM.nil, fun _ h => (nomatch h)⟩
    refine ⟨.ref a, rfl, a, rfl, ⟨_, sameT L0.same hS⟩, for_tup (xs := rowRefs rs) (fun i σ H1 => ∃ (kvs : List (Key × V)) (ks : List Int) (pt : Int → Addr) (L : Int → List Int) (y3 y4 y5 : Option V), σ = [some (.ref a), some (.ref D), some (.int (-1)), y3, y4, y5] ∧
        LS H H1 D kvs ks pt L ∧ (∀ s, s ∈ ks ↔ ∃ t, (s, t) ∈ edges ((rs.map (·.2)).take i)) ∧ ∀ s ∈ ks, (L s).Nodup ∧ ∀ t, t ∈ L s ↔ (s, t) ∈ edges ((rs.map (·.2)).take i))
      ⟨_, _, _, _, none, none, none, rfl, L0, fun s => by simp [edges], fun _ h => (nomatch h)⟩ (fun i σ H1 _ ⟨_, _, _, _, _, _, _, _, e, _⟩ => sameT e.same hS) ?_ ?_⟩
    · rintro i x σ H1 hx ⟨kvs, ks, pt, L, y3, y4, y5, rfl, e, hk, hL⟩
      have hi : i < rs.length := by
        have := (List.getElem?_eq_some_iff.mp hx).1
        rwa [rowRefs_len] at this
      obtain rfl : V.ref rs[i].1 = x := by
        unfold rowRefs at hx
        rw [List.getElem?_map, List.getElem?_eq_getElem hi] at hx
        exact Option.some.inj hx
      have hrow : SqT K H1 rs[i].1 (rowV rs[i].2) := sameT e.same (hR rs[i] (List.getElem_mem hi))
      have htk : (rs.map (·.2)).take (i + 1) = (rs.map (·.2)).take i ++ [rs[i].2] := by
        rw [List.take_succ, List.getElem?_map, List.getElem?_eq_getElem hi]
        rfl
      have hes := edges_snoc rs[i].2 ((rs.map (·.2)).take i)
      rw [← htk] at hes
      have hsub : ∀ e ∈ edges ((rs.map (·.2)).take (i + 1)), e.2 ∈ M := by
        have all : ∀ l : List Row, ∀ j, ∀ e ∈ edges (l.take j), e ∈ edges l := by
          intro l
          induction l with
          | nil => intro j e he; simpa using he
          | cons r l ih =>
            intro j e he
            cases j with
            | zero => exact (nomatch he)
            | succ j =>
              rw [List.take_succ_cons] at he
              unfold edges at he ⊢
              split
              · rename_i h1
                rw [if_pos h1] at he
                exact ih j e he
              · rename_i h1
                rw [if_neg h1] at he
                rcases List.mem_cons.mp he with rfl | he
                · exact List.mem_cons_self
                · exact List.mem_cons_of_mem _ (ih j e he)
        exact fun e he => hEM e (all _ _ e he)
      have hEl : (edges ((rs.map (·.2)).take i)).length ≤ 76 := by
        have h1 := edges_len ((rs.map (·.2)).take i)
        have h2 : ((rs.map (·.2)).take i).length ≤ (rs.map (·.2)).length := List.length_take_le' _ _
        rw [List.length_map] at h2
        omega
      rw [hes] at hsub ⊢
      generalize edges ((rs.map (·.2)).take i) = E at hk hL hsub hEl
      generalize rs[i].1 = p at hrow
      generalize rs[i].2 = r at hrow hsub
      obtain ⟨s, lb, tg⟩ := r
      refine ⟨p, _, rfl, hrow, rfl, _, _, rfl, _, _, rfl, _, _, rfl, rfl, ?_⟩
      dsimp only at hsub ⊢
      refine ⟨.int tg, rfl, 1, rfl, rfl, _, rfl, ite2 (fun h1 => ?_) (fun h1 => ?_)⟩
      · have htg : ¬ tg = -1 := fun z => by subst z; simp at h1
        simp only [htg, if_false] at hsub ⊢
        have dg : ∀ {H' : Hp} (z : Int), Same H1 H' → DGet H' D (.int z) (lf ks pt z) := fun z S => .inl ⟨kvs, Sum.inl z, .inl (S _ _ e.at_), rfl, (e.dm.val z).symm⟩
        refine ⟨.ref D, rfl, D, rfl, .inl ⟨kvs, .inl e.at_⟩, .int s, rfl, Nat.zero_le _, fun g hg => ⟨lf ks pt s, dg s (same_upd hg), ?_⟩⟩
        obtain ⟨b, zs, hb, eb, zn, hzm⟩ : ∃ (b : Addr) (zs : List Int), (lf ks pt s).getD (.ref g) = .ref b ∧ (upd H1 g (.lst [])) b = some (.lst (zs.map V.int)) ∧ zs.Nodup ∧ ∀ t, t ∈ zs ↔ (s, t) ∈ E := by
          unfold lf
          by_cases hsk : s ∈ ks
          · exact ⟨pt s, L s, by rw [if_pos hsk]; rfl, same_upd hg _ _ (e.l s hsk), (hL s hsk).1, (hL s hsk).2⟩
          · refine ⟨g, [], by rw [if_neg hsk]; rfl, upd_same, List.nodup_nil, fun t => ⟨fun x => (nomatch x), fun x => absurd ((hk s).mpr ⟨t, x⟩) hsk⟩⟩
        rw [hb]
        have S1 : Same H1 (upd H1 g (.lst [])) := same_upd hg
        generalize upd H1 g (.lst []) = H2 at eb S1
        have zl : zs.length ≤ M.length := nodup_leK _ _ zn fun x hx => hsub (s, x) (List.mem_append_left _ ((hzm x).mp hx))
        refine ⟨.int tg, rfl, (show 1 ≤ sizeLine by decide), fun g2 hg2 => ⟨b, g2, zs.map V.int, [.int tg], rfl, rfl, same_upd hg2 _ _ eb, upd_same, ?_, fun g3 hg3 => ?_⟩⟩
        · rw [List.length_map]
          exact Nat.le_of_lt (small1000 (by simp; omega))
        have S2 := (S1.trans (same_upd (o := .lst [.int tg]) hg2)).trans (same_upd (o := .lst (zs.map V.int ++ [.int tg])) hg3)
        have hat : (upd (upd H2 g2 (.lst [.int tg])) g3 (.lst (zs.map V.int ++ [.int tg]))) g3 = some (.lst ((zs ++ [tg]).map V.int)) := by rw [upd_same, List.map_append]; rfl
        generalize (upd (upd H2 g2 (.lst [.int tg])) g3 (.lst (zs.map V.int ++ [.int tg]))) = H3 at S2 hat
        unfold tNil
        dsimp only
        refine ss_go (M := M) (.inl (.inl hat)) (by simp; omega) (fun x hx => ?_) (by omega) fun ms p2 H4 nd hms hml S4 hp2 e4 => ?_
        · rcases List.mem_append.mp hx with h | h
          · exact hsub (s, x) (List.mem_append_left _ ((hzm x).mp h))
          · rw [List.mem_singleton.mp h]
            exact hsub (s, tg) (List.mem_append_right _ (List.mem_singleton.mpr rfl))
        have S14 := S2.trans S4
        have L4 := e.put (s := s) S14 (S2.free hp2) e4
        have hkl : kvs.length ≤ ks.length := e.dm.size fun x hx => by
          unfold lf at hx
          split at hx
          · assumption
          · exact absurd rfl hx
        have hkl2 : kvs.length ≤ E.length := by
          have := e.dm.size (l := E.map (·.1)) fun x hx => by
            unfold lf at hx
            split at hx
            · rename_i h
              obtain ⟨t, ht⟩ := (hk x).mp h
              exact List.mem_map.mpr ⟨_, ht, rfl⟩
            · exact absurd rfl hx
          rwa [List.length_map] at this
        refine ⟨.ref D, rfl, .int s, rfl, D, _, rfl, .inl ⟨kvs, Sum.inl s, S14 _ _ e.at_, rfl, ?_, rfl⟩, ?_⟩
        · exact small1000 (by omega)
        refine ⟨_, _, _, _, _, _, _, rfl, L4, fun x => ?_, fun x hx => ?_⟩
        · rw [List.mem_cons, hk x]
          constructor
          · rintro (rfl | ⟨t, h⟩)
            · exact ⟨tg, List.mem_append_right _ (List.mem_singleton.mpr rfl)⟩
            · exact ⟨t, List.mem_append_left _ h⟩
          · rintro ⟨t, h⟩
            rcases List.mem_append.mp h with h | h
            · exact .inr ⟨t, h⟩
            · rw [List.mem_singleton] at h
              exact .inl (Prod.mk.inj h).1
        · by_cases h : x = s
          · subst h
            simp only [if_true]
            refine ⟨nd, fun t => ?_⟩
            rw [hms t, List.mem_append, List.mem_append, hzm t, List.mem_singleton, List.mem_singleton]
            simp
          · simp only [h, if_false]
            have hxk : x ∈ ks := (List.mem_cons.mp hx).resolve_left h
            refine ⟨(hL x hxk).1, fun t => ?_⟩
            rw [(hL x hxk).2 t, List.mem_append, List.mem_singleton]
            simp [h]
      · have htg : tg = -1 := Classical.byContradiction fun z => h1 (by simpa using z)
        simp only [htg, if_true, List.append_nil]
        exact ⟨_, _, _, _, _, _, _, rfl, e, hk, hL⟩
    · rintro σ H1 ⟨kvs, ks, pt, L, y3, y4, y5, rfl, e, hk, hL⟩
      rw [rowRefs_len, ← List.length_map (f := (·.2)) (as := rs), List.take_length] at hk hL
      have hEl : (edges (rs.map (·.2))).length ≤ 76 := by
        have h1 := edges_len (rs.map (·.2))
        rw [List.length_map] at h1
        omega
      generalize edges (rs.map (·.2)) = E at hk hL hEM q hEl
      obtain ⟨ks1, hks1⟩ : ∃ ks1, kvs.map (fun p => keyI p.1) = ks1 := ⟨_, rfl⟩
      have hkk : ∀ s, s ∈ ks1 ↔ s ∈ ks := fun s => by
        rw [← hks1, e.dm.keysI.2 s]
        unfold lf
        by_cases h : s ∈ ks <;> simp [h]
      have n1 : ks1.Nodup := hks1 ▸ e.dm.keysI.1
      have e1 : LS H H1 D kvs ks1 pt L := ⟨e.same, e.fd, e.at_, e.dm.congr (fun s => by unfold lf; simp [hkk s]), fun s hs => e.l s ((hkk s).mp hs)⟩
      have ld : Leads E ks1 L := ⟨fun s => (hkk s).trans (hk s), fun s hs => (hL s ((hkk s).mp hs)).1, fun s t h => ((hL s ((hk s).mpr ⟨t, h⟩)).2 t).mpr h, fun s hs t ht => .one (((hL s ((hkk s).mp hs)).2 t).mp ht)⟩
      have hkl : ks1.length ≤ 76 := by
        have := nodup_leK _ (E.map (·.1)) n1 fun s hs => by
          obtain ⟨t, ht⟩ := (ld.keys s).mp hs
          exact List.mem_map.mpr ⟨_, ht, rfl⟩
        rw [List.length_map] at this
        omega
      have tb : ∀ L : Int → List Int, Leads E ks1 L → total ks1 L ≤ 5776 := fun L l => by
        have h1 := total_bound l
        have h2 : ks1.length * E.length ≤ 76 * 76 := Nat.mul_le_mul hkl hEl
        omega
      have lM : ∀ L : Int → List Int, Leads E ks1 L → ∀ s ∈ ks1, (L s).length ≤ 31 ∧ ∀ t ∈ L s, t ∈ M := fun L l s hs => by
        have h2 : ∀ t ∈ L s, t ∈ M := fun t ht => by
          obtain ⟨e', he, e2⟩ := List.mem_map.mp (path_tgt (l.sound s hs t ht))
          exact e2 ▸ hEM e' he
        have := nodup_leK _ M (l.nd s hs) h2
        exact ⟨by omega, h2⟩
      clear hk hL hkk e ht ht' L0 Dt hEM
      refine ⟨fun m σ H2 => ∃ (D : Addr) (kvs : List (Key × V)) (pt : Int → Addr) (L : Int → List Int) (z : Int) (y3 y4 y5 : Option V), σ = [some (.ref a), some (.ref D), some (.int z), y3, y4, y5] ∧ LS H H2 D kvs ks1 pt L ∧ kvs.map (fun p => keyI p.1) = ks1 ∧ Leads E ks1 L ∧
        (z = -1 ∨ ∃ L0, Leads E ks1 L0 ∧ Next ks1 L0 L ∧ z = (total ks1 L0 : Nat)) ∧ m = 2 * (6000 - total ks1 L) + (if z = (total ks1 L : Nat) then 0 else 1), ⟨_, D, kvs, pt, L, -1, y3, y4, y5, rfl, e1, hks1, ld, .inl rfl, rfl⟩, ?_⟩
      clear e1 hks1 ld hD
      rintro m σ H2 ⟨D, kvs, pt, L, z, y3, y4, y5, rfl, e, hks, ld, hz, rfl⟩
      have htb := tb L ld
      have te : ∀ {H3 : Hp} {x2 : Option V} (S3 : Same H2 H3) (s : Int) (H' : Hp) (od : Obj) (R : VK), s ∈ ks1 → H' D = some (.frz od (.dK kvs)) → (∀ b, b ≠ D → H3 b ≠ none → H' b = H3 b) → R (.int (L s).length) H' →
          tCB (fun xs H Q => ∃ p ys, xs = [V.ref p] ∧ (SqL K H p ys ∨ SqT K H p ys) ∧ Q (.int ys.length) H) (tCons (tDGet (tVar 1) (tVar 3)) tNil) [some (.ref a), some (.ref D), x2, some (.int s), y4, y5] H' R := fun {H3 x2} S3 s H' od R hs hf ho r => by
        have h1 := S3 _ _ (e.l s hs)
        refine ⟨.ref D, rfl, .int s, rfl, D, .ref (pt s), rfl, .inl ⟨kvs, Sum.inl s, .inr ⟨od, hf⟩, rfl, by rw [e.dm.val s]; exact (if_pos hs).symm⟩, pt s, _, rfl, .inl (.inl (.inl ((ho _ (e.neD hs) (by rw [h1]; exact Option.some_ne_none _)).trans h1))), ?_⟩
        rw [List.length_map]
        exact r
      have hz0 : ks1.length < sizeLine := small1000 (by omega)
      refine ⟨.int z, rfl, sum_lc (ks := ks1) e.at_ hks e.dm.isI hz0 (fun s => .int (L s).length) (te (Same.refl _)) fun T hT => ⟨T, ks1.map fun s => ((L s).length : Int), rfl, .inl (.inl (by rw [upd_same, List.map_map]; rfl)), rfl, _, rfl, ?_⟩⟩
      rw [total_cast]
      have S3 := same_upd (o := .lst (ks1.map fun s => V.int (L s).length)) hT
      have e3 := e.more S3
      generalize upd H2 T (.lst (ks1.map fun s => V.int (L s).length)) = H3 at S3 e3
      refine ite2 (fun h1 => ?_) (fun h1 => ?_)
      · have hne : ¬ z = (total ks1 L : Nat) := fun x => by rw [x] at h1; simp at h1
        rw [if_neg hne]
        refine ⟨fun σ H4 => ∃ m', m' < 2 * (6000 - total ks1 L) + 1 ∧ ∃ (D : Addr) (kvs : List (Key × V)) (pt : Int → Addr) (L : Int → List Int) (z : Int) (y3 y4 y5 : Option V), σ = [some (.ref a), some (.ref D), some (.int z), y3, y4, y5] ∧ LS H H4 D kvs ks1 pt L ∧ kvs.map (fun p => keyI p.1) = ks1 ∧ Leads E ks1 L ∧
          (z = -1 ∨ ∃ L0, Leads E ks1 L0 ∧ Next ks1 L0 L ∧ z = (total ks1 L0 : Nat)) ∧ m' = 2 * (6000 - total ks1 L) + (if z = (total ks1 L : Nat) then 0 else 1), fun _ _ h => h, ?_⟩
        refine sum_lc (ks := ks1) e3.at_ hks e.dm.isI hz0 (fun s => .int (L s).length) (te S3) fun T2 hT2 => ⟨T2, ks1.map fun s => ((L s).length : Int), rfl, .inl (.inl (by rw [upd_same, List.map_map]; rfl)), ?_⟩
        rw [total_cast]
        have e4 := e3.more (same_upd (o := .lst (ks1.map fun s => V.int (L s).length)) hT2)
        generalize upd H3 T2 (.lst (ks1.map fun s => V.int (L s).length)) = H4 at e4
        clear te e3 S3 e
        refine ⟨D, .dK kvs, e4.at_, trivial, fun od => ⟨.ref D, rfl, D, od, rfl, .inl ⟨kvs, upd_same, fun T3 hT3 => ?_⟩⟩⟩
        have TD : T3 ≠ D := fun z => by rw [z, upd_same] at hT3; cases hT3
        rw [upd_ne TD] at hT3
        have hkl2 : kvs.length = ks1.length := by rw [← hks, List.length_map]
        refine lc_it walk_keys (fun i H' => ∃ (ps : List Addr) (kv : List (Key × V)), H' D = some (.frz od (.dK kvs)) ∧ (∀ b u, b ≠ D → H4 b = some u → H' b = some u) ∧ H' T3 = some (.lst (ps.map V.ref)) ∧ ps.length = i ∧
          Paired (fun p q => H' p = some (.tup [kV q.1, q.2])) ps kv ∧ kv.map (fun p => keyI p.1) = ks1.take i ∧ ∀ q ∈ kv, ∃ (s : Int) (b : Addr) (ms : List Int), q = (Sum.inl s, .ref b) ∧ s ∈ ks1 ∧ b ≠ T3 ∧ H' b = some (.lst (ms.map V.int)) ∧ ms.Nodup ∧ ∀ t, t ∈ ms ↔ t ∈ L s ∨ ∃ m ∈ L s, m ∈ ks1 ∧ t ∈ L m) ?_ (fun i H' _ ⟨_, _, h, _⟩ => h) ?_ ?_
        · exact ⟨[], [], by rw [upd_ne TD.symm, upd_same], fun b u h1 h2 => by rw [upd_ne (ne_of_none h2 hT3), upd_ne h1]; exact h2, upd_same, rfl, .nil, rfl, fun _ h => (nomatch h)⟩
        · rintro i x H5 H5' hlt ⟨ps, kv, g1, g2, g3, g4, g5, g6, g7⟩ ⟨rfl, k, v, hkv, rfl⟩
          obtain ⟨s, hs'⟩ := e4.dm.isI _ (List.mem_of_getElem? hkv)
          dsimp only at hs'
          subst hs'
          have hget : ks1[i]? = some s := by rw [← hks, List.getElem?_map, hkv]; rfl
          have htk : ks1.take (i + 1) = ks1.take i ++ [s] := by rw [List.take_succ, hget]; rfl
          have hsk : s ∈ ks1 := List.mem_of_getElem? hget
          refine ⟨rfl, ?_⟩
          unfold tYes
          refine iteT ?_
          refine ⟨.int s, rfl, .ref D, rfl, .int s, rfl, D, s, kvs, pt, ks1, M, L, rfl, .inr ⟨od, g1⟩, e4.dm, fun x hx => g2 _ _ (e4.neD hx) (e4.l x hx), hsk, hM, lM L ld, fun ms p H6 nd hms S hp hp' => ⟨(show 2 ≤ sizeLine by decide), fun R hR => ?_⟩⟩
          have g36 := S _ _ g3
          have RT : T3 ≠ R := ne_of_none g36 hR
          have RD : D ≠ R := ne_of_none (S _ _ g1) hR
          have pT : p ≠ T3 := fun x => by rw [x, g3] at hp; cases hp
          have pR : p ≠ R := ne_of_none hp' hR
          refine ⟨ps.map V.ref, by rw [upd_ne RT]; exact g36, by rw [List.length_map]; exact small1000 (by omega), ps ++ [R], kv ++ [(Sum.inl s, .ref p)], by rw [upd_ne TD.symm, upd_ne RD]; exact S _ _ g1, fun b u h1 h2 => ?_, by rw [upd_same, List.map_append]; rfl, by rw [List.length_append, g4]; rfl, ?_, ?_, fun q hq => ?_⟩
          · have := S _ _ (g2 b u h1 h2)
            rw [upd_ne (ne_of_none h2 hT3), upd_ne (ne_of_none this hR)]
            exact this
          · refine (paired_mono g5 fun p q hpq => ?_).snoc ?_
            · have := S _ _ hpq
              rw [upd_ne (fun x => by rw [x, g3] at hpq; cases hpq), upd_ne (ne_of_none this hR)]
              exact this
            · rw [upd_ne RT.symm, upd_same]
              rfl
          · rw [List.map_append, g6, htk]
            rfl
          · rcases List.mem_append.mp hq with h | h
            · obtain ⟨s', b, ms', rfl, k1, k2, k3, k4⟩ := g7 q h
              have := S _ _ k3
              exact ⟨s', b, ms', rfl, k1, k2, by rw [upd_ne k2, upd_ne (ne_of_none this hR)]; exact this, k4⟩
            · rw [List.mem_singleton.mp h]
              exact ⟨s, p, ms, rfl, hsk, pT, by rw [upd_ne pT, upd_ne pR]; exact hp', nd, hms⟩
        · rintro H5 ⟨ps, kv, g1, g2, g3, g4, g5, g6, g7⟩
          have hfull : ks1.take kvs.length = ks1 := by rw [hkl2, List.take_length]
          rw [hfull] at g6
          have nD : ∀ p o, H5 p = some o → (∀ od u, o ≠ .frz od u) → p ≠ D := fun p o h1 h2 x => by
            rw [x, g1] at h1
            exact h2 _ _ (Option.some.inj h1).symm
          refine ⟨g1, T3, ps, kv, rfl, .inl (.inl (by rw [upd_ne TD]; exact g3)), paired_mono g5 fun p q hpq => .inl (.inl (by rw [upd_ne (nD p _ hpq fun _ _ x => by cases x)]; exact hpq)), fun p hp => ?_⟩
          have nk : (kv.map (·.1)).Nodup := by
            refine nodup_of_map keyI ?_
            rw [List.map_map]
            have : kv.map (keyI ∘ fun x => x.1) = ks1 := g6
            rw [this]
            exact n1
          rw [mergeK_nd kv [] nk, List.nil_append]
          have pD : D ≠ p := fun x => by rw [← x, upd_same] at hp; cases hp
          rw [upd_ne pD.symm] at hp
          obtain ⟨pl, hpl⟩ := Classical.axiomOfChoice (r := fun (s : Int) (bm : Addr × List Int) => s ∈ ks1 → ((Sum.inl s, V.ref bm.1) : Key × V) ∈ kv ∧ H5 bm.1 = some (.lst (bm.2.map V.int)) ∧ bm.2.Nodup ∧ ∀ t, t ∈ bm.2 ↔ t ∈ L s ∨ ∃ m ∈ L s, m ∈ ks1 ∧ t ∈ L m) fun s => by
            by_cases hs : s ∈ ks1
            · have h1 : s ∈ kv.map fun p => keyI p.1 := g6 ▸ hs
              obtain ⟨q, hq, hqs⟩ := List.mem_map.mp h1
              obtain ⟨s', b, ms, rfl, k1, k2, k3, k4, k5⟩ := g7 q hq
              obtain rfl : s' = s := hqs
              exact ⟨(b, ms), fun _ => ⟨hq, k3, k4, k5⟩⟩
            · exact ⟨(0, []), fun h => absurd h hs⟩
          have d0 : DM kv (fun s => valV kv (Sum.inl s : Key)) := ⟨fun _ => rfl, nk, fun q hq => by
            obtain ⟨s, b, ms, rfl, _⟩ := g7 q hq
            exact ⟨s, rfl⟩⟩
          have d1 : DM kv (lf ks1 fun s => (pl s).1) := d0.congr fun s => by
            unfold lf
            by_cases hs : s ∈ ks1
            · rw [if_pos hs]
              exact d0.mem.mp (hpl s hs).1
            · rw [if_neg hs]
              exact Classical.byContradiction fun no => hs (by rw [← g6]; exact (d0.keysI.2 s).mpr no)
          have nx : Next ks1 L (fun s => (pl s).2) := ⟨fun s hs => (hpl s hs).2.2.1, fun s hs => (hpl s hs).2.2.2⟩
          have ld' := ld.next nx
          have ht1 := tb _ ld'
          have ht2 : total ks1 L ≤ total ks1 fun s => (pl s).2 := total_le (nx.up ld)
          refine ⟨_, ?_, p, kv, (fun s => (pl s).1), (fun s => (pl s).2), (total ks1 L : Nat), _, _, _, rfl, ⟨fun b u hb => ?_, ?_, upd_same, d1, fun s hs => ?_⟩, g6, ld', .inr ⟨L, ld, nx, rfl⟩, rfl⟩
          · split
            · rename_i h
              omega
            · rename_i h
              omega
          · have hb4 := e4.same b u hb
            have bD : b ≠ D := ne_of_none hb e4.fd
            have h5 := g2 b u bD hb4
            rw [upd_ne (ne_of_none h5 hp), upd_ne bD]
            exact h5
          · cases h : H p with
            | none => rfl
            | some u =>
              have pD' : p ≠ D := pD.symm
              rw [g2 p u pD' (e4.same p u h)] at hp
              cases hp
          · have h5 := (hpl s hs).2.1
            rw [upd_ne (ne_of_none h5 hp), upd_ne (nD _ _ h5 fun _ _ x => by cases x)]
            exact h5
      · have hz' : z = (total ks1 L : Nat) := Classical.byContradiction fun x => h1 (by simp [x])
        obtain ⟨L0, ld0, nx, hz2⟩ := hz.resolve_left (by omega)
        have hfin := ld0.fin nx (by omega)
        clear te e S3
        refine ⟨D, .dK kvs, e3.at_, trivial, fun od => ⟨.ref D, rfl, D, od, rfl, .inl ⟨kvs, upd_same, fun T3 hT3 => ?_⟩⟩⟩
        have TD : T3 ≠ D := fun z => by rw [z, upd_same] at hT3; cases hT3
        rw [upd_ne TD] at hT3
        have hkl2 : kvs.length = ks1.length := by rw [← hks, List.length_map]
        refine lc_it walk_keys (fun i H' => H' = upd (upd H3 D (.frz od (.dK kvs))) T3 (.lst (((ks1.take i).filter fun s => decide (s ∈ L s)).map V.int))) rfl (fun i H' _ h => by rw [h, upd_ne TD.symm, upd_same]) ?_ ?_
        · rintro i x H5 H5' hlt rfl ⟨rfl, k, v, hkv, rfl⟩
          obtain ⟨s, hs'⟩ := e3.dm.isI _ (List.mem_of_getElem? hkv)
          dsimp only at hs'
          subst hs'
          have hget : ks1[i]? = some s := by rw [← hks, List.getElem?_map, hkv]; rfl
          have htk : ks1.take (i + 1) = ks1.take i ++ [s] := by rw [List.take_succ, hget]; rfl
          have hsk : s ∈ ks1 := List.mem_of_getElem? hget
          rw [htk, List.filter_append, List.map_append]
          have hlen : (((ks1.take i).filter fun s => decide (s ∈ L s))).length < sizeLine := by
            have h1 := List.length_filter_le (fun s => decide (s ∈ L s)) (ks1.take i)
            have h2 := List.length_take_le' i ks1
            exact small1000 (by omega)
          generalize ((ks1.take i).filter fun s => decide (s ∈ L s)) = acc at hlen
          have hl3 := e3.l s hsk
          have hl5 : (upd (upd H3 D (.frz od (.dK kvs))) T3 (.lst (acc.map V.int))) (pt s) = some (.lst ((L s).map V.int)) := by rw [upd_ne (ne_of_none hl3 hT3), upd_ne (e3.neD hsk)]; exact hl3
          have hd5 : (upd (upd H3 D (.frz od (.dK kvs))) T3 (.lst (acc.map V.int))) D = some (.frz od (.dK kvs)) := by rw [upd_ne TD.symm, upd_same]
          refine ⟨rfl, .int s, rfl, .ref D, rfl, .int s, rfl, D, .ref (pt s), rfl, .inl ⟨kvs, Sum.inl s, .inr ⟨od, hd5⟩, rfl, by rw [e3.dm.val s]; exact (if_pos hsk).symm⟩, pt s, _, rfl, .inl (.inl (.inl hl5)), rfl, flat_ints _, _, rfl, ?_⟩
          rw [inV_ints]
          refine ite2 (fun h1 => ?_) (fun h1 => ?_)
          · have h1 : s ∈ L s := by simpa using h1
            refine ⟨.int s, rfl, _, upd_same, by rw [List.length_map]; exact hlen, ?_⟩
            rw [upd_upd]
            simp [List.filter_cons, h1]
          · have h1 : ¬ s ∈ L s := by simpa using h1
            simp [List.filter_cons, h1]
        · rintro H5 rfl
          have hfull : ks1.take kvs.length = ks1 := by rw [hkl2, List.take_length]
          rw [hfull]
          refine ⟨by rw [upd_ne TD.symm, upd_same], Nat.zero_le _, fun y hy => ?_⟩
          have hTy : T3 ≠ y := fun x => by rw [← x, upd_ne TD, upd_same] at hy; cases hy
          refine ⟨_, _, .lst (.inl (.inl (by rw [upd_ne hTy, upd_ne TD, upd_same]))) (dp_ints _), .lst (.inl (.inl upd_same)) .nil, shaped_ints _, shaped_nil, q _ _ (fun b u hb => ?_) ?_⟩
          · have hb3 := e3.same b u hb
            have bD : b ≠ D := ne_of_none hb e3.fd
            have bT : b ≠ T3 := ne_of_none hb3 hT3
            have by' : b ≠ y := fun x => by rw [← x, upd_ne bD, upd_ne bT, upd_ne bD, hb3] at hy; cases hy
            rw [upd_ne by', upd_ne bD, upd_ne bT, upd_ne bD]
            exact hb3
          · rw [eqv_nil, ← hfin]
            constructor
            · intro h
              cases hf : ks1.filter fun s => decide (s ∈ L s) with
              | nil => rw [hf] at h; simp at h
              | cons s l =>
                have : s ∈ ks1.filter fun s => decide (s ∈ L s) := hf ▸ List.mem_cons_self
                have := List.mem_filter.mp this
                exact ⟨s, this.1, of_decide_eq_true this.2⟩
            · rintro ⟨s, h1, h2⟩
              have : s ∈ ks1.filter fun s => decide (s ∈ L s) := List.mem_filter.mpr ⟨h1, decide_eq_true h2⟩
              cases hf : ks1.filter fun s => decide (s ∈ L s) with
              | nil => rw [hf] at this; cases this
              | cons s l => rfl
end
end K24

namespace K24
open PySem PySem.Spec L2 KS GL LB K24m
open PyProof.Rows hiding cnt
theorem int_shown {x : Int} (h : Small x) : (PyData.shown (.int x)).length ≤ 30 := by
  have h1 : x.natAbs < 10 ^ 25 := by
    obtain ⟨a, b⟩ := h
    have : x.natAbs ≤ 2 ^ 80 := by omega
    exact Nat.lt_of_le_of_lt this (by decide)
  have e := int_text_length_le10 (k := 25) (by decide) h1
  show (Str.ofString (toString x)).length ≤ 30
  rw [PySem.ofString_length]
  omega
theorem int_log {x : Int} (h : Small x) : x.natAbs.log2 ≤ 80 := by
  obtain ⟨a, b⟩ := h
  have h1 : x.natAbs < 2 ^ 81 := by omega
  by_cases h0 : x.natAbs = 0
  · rw [h0]
    decide
  · exact Nat.le_of_lt_succ ((Nat.log2_lt h0).mpr h1)
theorem int_weight {x : Int} (h : Small x) : PyData.weight (.int x) ≤ 81 := by
  have := int_log h
  unfold PyData.weight
  split <;> omega
theorem lay_row {r : Row} (h : Lbl r) : (rowD r).canLay0 = true := by
  have z := h.2
  simp [rowD, PyData.canLay0, PyData.canLayAll0, z]
theorem row_short {M : List Int} {r : Row} (h : Good M r) : (rowD r).leavesShort 30 = true := by
  refine PyData.leavesShort_of_canLay0 30 _ (lay_row h.2.1) ?_
  have h1 := int_shown h.1.1
  have h2 := int_shown h.2.2.1
  simp [rowD, PyData.intsShort, PyData.intsShortAll, h1, h2]
theorem row_show {M : List Int} {r : Row} (h : Good M r) : (rowD r).showable = true := by
  have h1 := int_log h.1.1
  have h2 := int_log h.2.2.1
  simp [rowD, PyData.showable, PyData.showableAll]
  omega
theorem row_weight {M : List Int} {r : Row} (h : Good M r) : (rowD r).weight ≤ 173 := by
  have h1 := int_weight h.1.1
  have h2 := int_weight h.2.2.1
  have h3 : PyData.weight (.str r.2.1) ≤ 8 := h.2.1.1
  unfold rowD
  rw [PyData.weight, PyData.weightAll, PyData.weightAll, PyData.weightAll, PyData.weightAll]
  omega
def rowsD (rs : List (Addr × Row)) : PyData := .tuple (rs.map fun q => rowD q.2)
theorem rows_short {M : List Int} : ∀ rs : List (Addr × Row), (∀ q ∈ rs, Good M q.2) → PyData.leavesShortAll 30 (rs.map fun q => rowD q.2) = true
  | [], _ => rfl
  | q :: rs, h => by
    rw [List.map_cons, PyData.leavesShortAll, row_short (h q List.mem_cons_self), rows_short rs fun x hx => h x (List.mem_cons_of_mem _ hx)]
    rfl
theorem rows_show {M : List Int} : ∀ rs : List (Addr × Row), (∀ q ∈ rs, Good M q.2) → PyData.showableAll (rs.map fun q => rowD q.2) = true
  | [], _ => rfl
  | q :: rs, h => by
    rw [List.map_cons, PyData.showableAll, row_show (h q List.mem_cons_self), rows_show rs fun x hx => h x (List.mem_cons_of_mem _ hx)]
    rfl
theorem rows_weight {M : List Int} : ∀ rs : List (Addr × Row), (∀ q ∈ rs, Good M q.2) → PyData.weightAll (rs.map fun q => rowD q.2) ≤ 174 * rs.length
  | [], _ => Nat.le_refl _
  | q :: rs, h => by
    have h1 := row_weight (h q List.mem_cons_self)
    have h2 := rows_weight rs fun x hx => h x (List.mem_cons_of_mem _ hx)
    rw [List.map_cons, PyData.weightAll, List.length_cons]
    omega
theorem rows_len {M : List Int} {rs : List (Addr × Row)} (h : ∀ q ∈ rs, Good M q.2) (hl : rs.length ≤ 76) : (rowsD rs).shown.length ≤ sizeLine := by
  have h1 := PyData.shown_le 30 (by decide) (rowsD rs) (rows_short rs h)
  have h2 : (rowsD rs).weight ≤ 174 * rs.length := rows_weight rs h
  rw [sizeLine_eq]
  omega
theorem rows_depth (rs : List (Addr × Row)) : (rowsD rs).depth ≤ 60 := by
  have := depth_rows rs
  unfold rowsD
  rw [PyData.depth]
  omega
/-- the truths -/
def blsD (bs : List Bool) : PyData := .list (bs.map .bool)
theorem bls_dp {K : PySem.W.Frag} {H : Hp} : ∀ bs : List Bool, DpAll K H (bs.map V.bl) (bs.map .bool)
  | [] => .nil
  | b :: bs => .cons (.bl b) (bls_dp bs)
theorem bls_show : ∀ bs : List Bool, PyData.showableAll (bs.map .bool) = true
  | [] => rfl
  | b :: bs => by
    rw [List.map_cons, PyData.showableAll, bls_show bs]
    rfl
theorem bls3 (a b c : Bool) : (blsD [a, b, c]).shown.length ≤ sizeLine ∧ (blsD [a, b, c]).depth ≤ 60 := by
  refine ⟨Nat.le_trans (?_ : _ ≤ 30) (by rw [sizeLine_eq]; decide), ?_⟩
  · cases a <;> cases b <;> cases c <;> decide +kernel
  · cases a <;> cases b <;> cases c <;> decide +kernel
theorem bls_last : (blsD [false, false, true]).shown = ("[False, False, True]" : Str) := by decide +kernel
theorem _root_.LB.Bk.on {H0 H H' : Hp} {d c : Addr} {n : Nat} (B : Bk H0 H d c n) (S : Same H H') : Bk H0 H' d c n := by
  obtain ⟨⟨ns, m, t, a1, a2, a3⟩⟩ := B.dk
  exact ⟨B.same.trans S, B.hd, B.hc, ⟨ns, m, t, S _ _ a1, S _ _ a2, a3⟩⟩
theorem edges_in {l l' : List Row} (h : ∀ r, r ∈ l' ↔ r ∈ l) : ∀ e, e ∈ edges l' ↔ e ∈ edges l := by
  have mem : ∀ (l : List Row) e, e ∈ edges l ↔ ∃ r ∈ l, r.2.2 ≠ -1 ∧ e = (r.1, r.2.2) := by
    intro l e
    induction l with
    | nil => exact ⟨fun h => (nomatch h), fun ⟨_, h, _⟩ => (nomatch h)⟩
    | cons r l ih =>
      unfold edges
      by_cases h1 : r.2.2 = -1
      · rw [if_pos h1, ih]
        constructor
        · rintro ⟨x, hx, h2⟩
          exact ⟨x, List.mem_cons_of_mem _ hx, h2⟩
        · rintro ⟨x, hx, h2, h3⟩
          rcases List.mem_cons.mp hx with rfl | hx
          · exact absurd h1 h2
          · exact ⟨x, hx, h2, h3⟩
      · rw [if_neg h1, List.mem_cons, ih]
        constructor
        · rintro (rfl | ⟨x, hx, h2⟩)
          · exact ⟨r, List.mem_cons_self, h1, rfl⟩
          · exact ⟨x, List.mem_cons_of_mem _ hx, h2⟩
        · rintro ⟨x, hx, h2, h3⟩
          rcases List.mem_cons.mp hx with rfl | hx
          · exact .inl h3
          · exact .inr ⟨x, hx, h2, h3⟩
  intro e
  rw [mem, mem]
  constructor
  · rintro ⟨r, hr, h2⟩
    exact ⟨r, (h r).mp hr, h2⟩
  · rintro ⟨r, hr, h2⟩
    exact ⟨r, (h r).mpr hr, h2⟩
end K24

namespace K24
open PySem PySem.Spec L2 KS GL LB K24m
open PyProof.Rows hiding cnt
theorem no_cyc : ¬ Cyc [] := by
  rintro ⟨x, hx⟩
  cases hx with
  | one e => cases e
  | cons e _ => cases e
section
variable {P : Program} {w : World} {K : PySem.W.Frag} {mg : Str → Option Value} {base : Heap}
def spLaw (K : PySem.W.Frag) : Sp := fun vs H Q _ => ∃ (a : Addr) (ns : List Int), vs = [.ref a] ∧ SqL K H a (ns.map V.int) ∧ ns.length ≤ 63 ∧ ∀ H', Q (.bl true) H'
theorem scLaw : FnScope ["_law_script", "_law_deck_here", "_law_turn", "_law_some_here", "_law_due", "_law_was", "_law_told"] ["_law_script"] (defScope sLaw) := ⟨rfl, rfl, rfl, by decide +kernel, rfl, by decide +kernel, by decide +kernel⟩
theorem ok_law {f : Addr} {fd : FuncData} (F : Fun K "law" "law" sLaw f fd) (T : Blt mg) (h_law_deck : Has P w K mg base "_law_deck" 1 ["_law_script"] (spDeck K)) (h_law_some : Has P w K mg base "_law_some" 4 ["_law_deck_here"] (spSome K))
    (h_law_is_round : Has P w K mg base "_law_is_round" 2 ["_law_some_here"] (spRound K)) (hhas_cycle : Has P w K mg base "has_cycle" 2 ["arrows"] (spHas K)) (hhas_cycleK : HasKw P w K mg base "has_cycle" 2 "arrows" (spHas K))
    (h_law_mixed : Has P w K mg base "_law_mixed" 2 ["_law_deck_here", "_law_some_here"] (spMixed K)) : FnG P w K mg base CX0 5 f fd ["_law_script"] (spLaw K) := by
  refine okG F scLaw (fun vs H Q E h => ?_) (fun cdv A outer s H vs Q E hrG h => ?_)
  · obtain ⟨_, _, rfl, _⟩ := h
    rfl
  · obtain ⟨a, ns, rfl, hS, hlen, q⟩ := h
    have hr := hrG.room
    have hu := hu_of hr
    have hu64 := hr.units
    refine ⟨_, (pss_cons (ps_set (i := 1) scLaw.nd rfl (Or.inl rfl) (pe_has h_law_deck (hr.mono (by decide)) rfl (pa_cons (pv 0) pa_nil)))
  (pss_cons (ps_for PassesOwn.never rfl (pi_range1 (by rfl) T.b_range (pa_cons pe_int pa_nil)) (pg_name (i := 2) scLaw.nd rfl (Or.inl rfl))
    (pss_cons (ps_set (i := 3) scLaw.nd rfl (Or.inl rfl) (pe_has h_law_some (hr.mono (by decide)) rfl (pa_cons (pv 1) pa_nil)))
  (pss_cons (ps_par (i := 4) (j := 5) rfl scLaw.nd rfl rfl (by decide) rfl rfl (pa_cons (pe_has h_law_is_round (hr.mono (by decide)) rfl (pa_cons (pv 3) pa_nil)) (pa_cons (pe_callB (cr_repr hrG.gd hu64) (by rfl) T.b_repr (by decide +kernel) (pa_cons (pv 3) pa_nil)) pa_nil)) (by rfl))
  (pss_cons (ps_set (i := 6) scLaw.nd rfl (Or.inl rfl) (pe_lst (pa_cons (pe_has hhas_cycle (hr.mono (by decide)) rfl (pa_cons (pv 3) pa_nil)) (pa_cons (pe_hasKw hhas_cycleK (hr.mono (by decide)) rfl (pv 3)) (pa_cons (pe_has hhas_cycle (hr.mono (by decide)) rfl (pa_cons (pe_has h_law_mixed (hr.mono (by decide)) rfl (pa_cons (pv 1) (pa_cons (pe_callTy call_list_of (by rfl) T.b_list (by decide +kernel) (pa_cons (pv 3) pa_nil)) pa_nil))) pa_nil)) pa_nil)))))
  (pss_one (ps_if (PW.pt (pw_or (pt_cmpR op_ne (pe_callB (cr_repr hrG.gd hu64) (by rfl) T.b_repr (by decide +kernel) (pa_cons (pv 6) pa_nil)) (pe_callB (cr_repr hrG.gd hu64) (by rfl) T.b_repr (by decide +kernel) (pa_cons (pe_op op_rep (pe_lst (pa_cons (pv 4) pa_nil)) pe_int) pa_nil)) (nomark _)) (pw_or1 (pt_cmpR op_ne (pe_callB (cr_repr hrG.gd hu64) (by rfl) T.b_repr (by decide +kernel) (pa_cons (pv 3) pa_nil)) (pv 5) (nomark _)))))
    (pss_one (ps_ret pe_bl))
    pss_nil))))))
  (pss_one (ps_ret (pe_cmpR op_eq (pe_callB (cr_repr hrG.gd hu64) (by rfl) T.b_repr (by decide +kernel) (pa_cons (pe_lst (pa_cons (pe_has hhas_cycle (hr.mono (by decide)) rfl (pa_cons (pe_tup pa_nil) pa_nil)) (pa_cons (pe_has hhas_cycle (hr.mono (by decide)) rfl (pa_cons (pe_tup (pa_cons (pe_tup (pa_cons pe_int (pa_cons pe_str (pa_cons (pe_un un_neg pe_int) pa_nil)))) pa_nil)) pa_nil)) (pa_cons (pe_has hhas_cycle (hr.mono (by decide)) rfl (pa_cons (pe_tup (pa_cons (pe_tup (pa_cons pe_int (pa_cons pe_str (pa_cons pe_int pa_nil)))) pa_nil)) pa_nil)) pa_nil)))) pa_nil)) pe_str (nomark _)))))), ?_⟩
    refine ⟨.ref a, rfl, a, ns, rfl, hS, fun d c H1 B1 => ⟨8, rfl, by decide, by decide, for_range (lo := 0) (n := (8 : Int).toNat) (fun i σ H1 => ∃ (Hk : Hp) (y2 y3 y4 y5 y6 : Option V), σ = [some (.ref a), some (.ref d), y2, y3, y4, y5, y6] ∧ Bk Hk H1 d c (1000 * i))
      ⟨H, none, none, none, none, none, rfl, B1⟩ ?_ ?_⟩⟩
    · rintro i σ H2 hi ⟨Hk, y2, y3, y4, y5, y6, rfl, B2⟩
      have hi8 : i < 8 := hi
      refine ⟨.ref d, rfl, Hk, d, c, _, rfl, B2, by omega, fun t rs M H3 H4 hM hl hg S3 ht hR B4 => ?_⟩
      have ht4 := sameT B4.same ht
      have hR4 := hR.mono B4.same
      refine ⟨.ref t, rfl, t, rs, M, rfl, ht4, hR4, hl, by omega, edges_mem (fun r hr' => ?_), fun b0 H5 S5 hb0 => ?_⟩
      · obtain ⟨x, hx, rfl⟩ := List.mem_map.mp hr'
        exact (hg x hx).2.2.2
      have B5 := B4.on S5
      refine ⟨.ref t, rfl, t, rowsD rs, rfl, .tup (sameT B5.same ht) (dp_rows (hR.mono B5.same)), rows_show rs hg, rows_depth rs, rows_len hg hl, ?_⟩
      refine ⟨_, _, rfl, .ref t, rfl, t, rs, rfl, sameT B5.same ht, hR.mono B5.same, hl, fun b1 H6 S6 hb1 => ?_⟩
      have B6 := B5.on S6
      refine ⟨.ref t, rfl, t, rs, rfl, sameT B6.same ht, hR.mono B6.same, hl, fun b2 H7 S7 hb2 => ?_⟩
      have B7 := B6.on S7
      refine ⟨.ref d, rfl, .ref t, rfl, t, _, rfl, .inr (sameT B7.same ht), fun l hl7 => ?_⟩
      obtain ⟨l1, l2, l3⟩ := B7.newL hl7
      have B8 := (B7.junk (o := .lst (rowRefs rs)) l3 l1 l2).keep upd_same l1 l2
      have S38 : Same H3 (upd H3 l (.lst (rowRefs rs))) := same_upd l3
      refine ⟨_, d, c, l, _, rs, rfl, B8, .inl (.inl upd_same), hR.mono S38, hl, (fun x hx => (hg x hx).2.1), by omega, fun t' rs' H9 H10 hm hl' S9 ht' hR' B10 => ?_⟩
      refine ⟨t', rs', rfl, sameT B10.same ht', hR'.mono B10.same, hl', fun b3 H11 S11 hb3 => ⟨(show 3 ≤ sizeLine by decide), fun L hL => ?_⟩⟩
      have B11 := B10.on S11
      have hb3' : b3 = true ↔ Cyc (edges (rs.map (·.2))) := hb3.trans (Cyc.congr (edges_in hm))
      obtain rfl : b1 = b0 := Bool.eq_iff_iff.mpr (hb1.trans hb0.symm)
      obtain rfl : b2 = b1 := Bool.eq_iff_iff.mpr (hb2.trans hb0.symm)
      obtain rfl : b3 = b2 := Bool.eq_iff_iff.mpr (hb3'.trans hb0.symm)
      obtain ⟨e1, e2, e3⟩ := B11.newL hL
      have B12 := B11.junk (o := .lst [.bl b3, .bl b3, .bl b3]) e3 e1 e2
      have S39 := S38.trans S9
      obtain ⟨q1, q2⟩ := bls3 b3 b3 b3
      refine ⟨.ref L, rfl, L, blsD [b3, b3, b3], rfl, .lst (.inl (.inl upd_same)) (bls_dp [b3, b3, b3]), bls_show _, q2, q1, ?_⟩
      refine ⟨.bl b3, rfl, (show 1 ≤ sizeLine by decide), fun p hp => ⟨p, 3, _, rfl, rfl, upd_same, by decide, by decide, (show 1 * 3 ≤ sizeLine by decide), fun p2 hp2 => ?_⟩⟩
      obtain ⟨f1, f2, f3⟩ := B12.newL hp
      have B13 := B12.junk (o := .lst [.bl b3]) f3 f1 f2
      obtain ⟨g1, g2, g3⟩ := B13.newL hp2
      have B14 := B13.junk (o := .lst (List.replicate (3 : Int).toNat [V.bl b3]).flatten) g3 g1 g2
      refine ⟨p2, blsD [b3, b3, b3], rfl, .lst (.inl (.inl upd_same)) (bls_dp [b3, b3, b3]), bls_show _, q2, q1, rfl, _, rfl, ?_⟩
      rw [decide_eq_true rfl]
      refine iteF ?_
      refine ⟨.ref t, rfl, t, rowsD rs, rfl, .tup (sameT (S39.trans B14.same) ht) (dp_rows (hR.mono (S39.trans B14.same))), rows_show rs hg, rows_depth rs, rows_len hg hl, .str (rowsD rs).shown, rfl, rfl, _, rfl, ?_⟩
      rw [decide_eq_true rfl]
      refine iteF ?_
      exact ⟨H9, _, _, _, _, _, rfl, B14.mono (by omega)⟩
    · rintro σ H2 ⟨Hk, y2, y3, y4, y5, y6, rfl, B2⟩
      refine ⟨Nat.zero_le _, fun t1 ht1 => ⟨t1, [], rfl, .inl (.inl upd_same), (fun _ h => (nomatch h)), by decide, fun b1 H3 S3 hb1 => ?_⟩⟩
      obtain rfl : b1 = false := by
        cases b1 with
        | false => rfl
        | true => exact absurd (hb1.mp rfl) no_cyc
      refine ⟨1, rfl, (show 3 ≤ sizeLine by decide), fun r hr' => ⟨(show 1 ≤ sizeLine by decide), fun t2 ht2 => ?_⟩⟩
      have rt : r ≠ t2 := fun e => by rw [← e, upd_same] at ht2; cases ht2
      refine ⟨t2, [(r, ((0, "a", -1) : Row))], rfl, .inl (.inl upd_same), (fun z hz => ?_), (show 1 ≤ 76 by decide), fun b2 H4 S4 hb2 => ?_⟩
      · rw [List.mem_singleton.mp hz]
        exact .inl (.inl (by rw [upd_ne rt, upd_same]; rfl))
      obtain rfl : b2 = false := by
        cases b2 with
        | false => rfl
        | true => exact absurd (hb2.mp rfl) no_cyc
      refine ⟨(show 3 ≤ sizeLine by decide), fun r3 hr3 => ⟨(show 1 ≤ sizeLine by decide), fun t3 ht3 => ?_⟩⟩
      have rt3 : r3 ≠ t3 := fun e => by rw [← e, upd_same] at ht3; cases ht3
      refine ⟨t3, [(r3, ((3, "a", 3) : Row))], rfl, .inl (.inl upd_same), (fun z hz => ?_), (show 1 ≤ 76 by decide), fun b3 H5 S5 hb3 => ?_⟩
      · rw [List.mem_singleton.mp hz]
        exact .inl (.inl (by rw [upd_ne rt3, upd_same]; rfl))
      obtain rfl : b3 = true := hb3.mpr ⟨3, .one (List.mem_singleton.mpr rfl)⟩
      refine ⟨(show 3 ≤ sizeLine by decide), fun L hL => ?_⟩
      obtain ⟨q1, q2⟩ := bls3 false false true
      refine ⟨L, blsD [false, false, true], rfl, .lst (.inl (.inl upd_same)) (bls_dp [false, false, true]), bls_show _, q2, q1, rfl, ?_⟩
      rw [bls_last, decide_eq_true rfl]
      exact q _
end
end K24

namespace K24
open PySem PySem.Spec L2 KS GL LB K24m
open PyProof.Rows hiding cnt
/-! ### what the top has written -/
theorem all_mk {l : PySem.W.OpenLaw} {w : World} {K : PySem.W.Frag} {h : Heap} {mg : Str → Option Value} {fa f1 f2 f3 f4 f5 f6 f7 f8 f9 f10 f11 f12 : Addr} (X : K.In h) (G : h.Ns mainGlobals mg) (hfa : mg "law" = some (.ref fa))
    {od1 an1 od2 an2 od3 an3 od4 an4 od5 an5 od6 an6 od7 an7 od8 an8 od9 an9 od10 an10 od11 an11 od12 an12 : Option Addr} {sl1 sl2 sl3 sl4 sl5 sl6 sl7 sl8 sl9 sl10 sl11 sl12 : Array (Option Value)} {oc1 kV1 dc1 pm1 cd1 ct1 oc2 kV2 dc2 pm2 cd2 ct2 oc3 kV3 dc3 pm3 cd3 ct3 oc4 kV4 dc4 pm4 cd4 ct4 oc5 kV5 dc5 pm5 cd5 ct5 oc6 kV6 dc6 pm6 cd6 ct6 oc7 kV7 dc7 pm7 cd7 ct7 oc8 kV8 dc8 pm8 cd8 ct8 oc9 kV9 dc9 pm9 cd9 ct9 oc10 kV10 dc10 pm10 cd10 ct10 oc11 kV11 dc11 pm11 cd11 ct11 oc12 kV12 dc12 pm12 cd12 ct12 : Value} {tk1 : Tok}
    (a1 : PySem.W.nsIn K mainGlobals "endless_states" = some (some (.ref f1))) (l1 : K.lookup f1 = some ⟨oc1, od1, .func (PySem.W.fnOf "endless_states" "endless_states" (defArgs sEndless) (defBody sEndless) (defScope sEndless) .none kV1 dc1 pm1 an1 cd1 ct1), sl1⟩) (c1 : PySem.W.codeIn K cd1 "endless_states" = true) (k1 : PySem.W.keepIn K (.ref f1) = true)
    (a2 : PySem.W.nsIn K mainGlobals "has_cycle" = some (some (.ref f2))) (l2 : K.lookup f2 = some ⟨oc2, od2, .func (PySem.W.fnOf "has_cycle" "has_cycle" (defArgs sHas) (defBody sHas) (defScope sHas) .none kV2 dc2 pm2 an2 cd2 ct2), sl2⟩) (c2 : PySem.W.codeIn K cd2 "has_cycle" = true) (k2 : PySem.W.keepIn K (.ref f2) = true)
    (a3 : PySem.W.nsIn K mainGlobals "_law_deck" = some (some (.ref f3))) (l3 : K.lookup f3 = some ⟨oc3, od3, .func (PySem.W.fnOf "_law_deck" "_law_deck" (defArgs sDeck) (defBody sDeck) (defScope sDeck) .none kV3 dc3 pm3 an3 cd3 ct3), sl3⟩) (c3 : PySem.W.codeIn K cd3 "_law_deck" = true) (k3 : PySem.W.keepIn K (.ref f3) = true)
    (a4 : PySem.W.nsIn K mainGlobals "_law_draw" = some (some (.ref f4))) (l4 : K.lookup f4 = some ⟨oc4, od4, .func (PySem.W.fnOf "_law_draw" "_law_draw" (defArgs sDraw) (defBody sDraw) (defScope sDraw) .none kV4 dc4 pm4 an4 cd4 ct4), sl4⟩) (c4 : PySem.W.codeIn K cd4 "_law_draw" = true) (k4 : PySem.W.keepIn K (.ref f4) = true)
    (a5 : PySem.W.nsIn K mainGlobals "_law_pick" = some (some (.ref f5))) (l5 : K.lookup f5 = some ⟨oc5, od5, .func (PySem.W.fnOf "_law_pick" "_law_pick" (defArgs sPick) (defBody sPick) (defScope sPick) .none kV5 dc5 pm5 an5 cd5 ct5), sl5⟩) (c5 : PySem.W.codeIn K cd5 "_law_pick" = true) (k5 : PySem.W.keepIn K (.ref f5) = true)
    (a6 : PySem.W.nsIn K mainGlobals "_law_further" = some (some (.ref f6))) (l6 : K.lookup f6 = some ⟨oc6, od6, .func (PySem.W.fnOf "_law_further" "_law_further" (defArgs sFurther) (defBody sFurther) (defScope sFurther) .none kV6 dc6 pm6 an6 cd6 ct6), sl6⟩) (c6 : PySem.W.codeIn K cd6 "_law_further" = true) (k6 : PySem.W.keepIn K (.ref f6) = true)
    (a7 : PySem.W.nsIn K mainGlobals "_law_is_round" = some (some (.ref f7))) (l7 : K.lookup f7 = some ⟨oc7, od7, .func (PySem.W.fnOf "_law_is_round" "_law_is_round" (defArgs sRound) (defBody sRound) (defScope sRound) .none kV7 dc7 pm7 an7 cd7 ct7), sl7⟩) (c7 : PySem.W.codeIn K cd7 "_law_is_round" = true) (k7 : PySem.W.keepIn K (.ref f7) = true)
    (a8 : PySem.W.nsIn K mainGlobals "_law_spots" = some (some (.ref f8))) (l8 : K.lookup f8 = some ⟨oc8, od8, .func (PySem.W.fnOf "_law_spots" "_law_spots" (defArgs sSpots) (defBody sSpots) (defScope sSpots) .none kV8 dc8 pm8 an8 cd8 ct8), sl8⟩) (c8 : PySem.W.codeIn K cd8 "_law_spots" = true) (k8 : PySem.W.keepIn K (.ref f8) = true)
    (a9 : PySem.W.nsIn K mainGlobals "_law_onward" = some (some (.ref f9))) (l9 : K.lookup f9 = some ⟨oc9, od9, .func (PySem.W.fnOf "_law_onward" "_law_onward" (defArgs sOnward) (defBody sOnward) (defScope sOnward) .none kV9 dc9 pm9 an9 cd9 ct9), sl9⟩) (c9 : PySem.W.codeIn K cd9 "_law_onward" = true) (k9 : PySem.W.keepIn K (.ref f9) = true)
    (a10 : PySem.W.nsIn K mainGlobals "_law_mixed" = some (some (.ref f10))) (l10 : K.lookup f10 = some ⟨oc10, od10, .func (PySem.W.fnOf "_law_mixed" "_law_mixed" (defArgs sMixed) (defBody sMixed) (defScope sMixed) .none kV10 dc10 pm10 an10 cd10 ct10), sl10⟩) (c10 : PySem.W.codeIn K cd10 "_law_mixed" = true) (k10 : PySem.W.keepIn K (.ref f10) = true)
    (a11 : PySem.W.nsIn K mainGlobals "_law_some" = some (some (.ref f11))) (l11 : K.lookup f11 = some ⟨oc11, od11, .func (PySem.W.fnOf "_law_some" "_law_some" (defArgs sSome) (defBody sSome) (defScope sSome) .none kV11 dc11 pm11 an11 cd11 ct11), sl11⟩) (c11 : PySem.W.codeIn K cd11 "_law_some" = true) (k11 : PySem.W.keepIn K (.ref f11) = true)
    (a12 : PySem.W.nsIn K mainGlobals "law" = some (some (.ref f12))) (l12 : K.lookup f12 = some ⟨oc12, od12, .func (PySem.W.fnOf "law" "law" (defArgs sLaw) (defBody sLaw) (defScope sLaw) .none kV12 dc12 pm12 an12 cd12 ct12), sl12⟩) (c12 : PySem.W.codeIn K cd12 "law" = true) (k12 : PySem.W.keepIn K (.ref f12) = true)
    (e1 : PySem.W.nsIn K mainGlobals "END" = some (some (.int (-1) tk1)))
    (z1 : PySem.W.nsIn K mainGlobals "int" = some none) (z2 : PySem.W.nsIn K mainGlobals "len" = some none) (z3 : PySem.W.nsIn K mainGlobals "list" = some none) (z4 : PySem.W.nsIn K mainGlobals "tuple" = some none) (z5 : PySem.W.nsIn K mainGlobals "dict" = some none) (z6 : PySem.W.nsIn K mainGlobals "set" = some none) (z7 : PySem.W.nsIn K mainGlobals "sorted" = some none) (z8 : PySem.W.nsIn K mainGlobals "sum" = some none) (z9 : PySem.W.nsIn K mainGlobals "repr" = some none) (z10 : PySem.W.nsIn K mainGlobals "range" = some none) (z11 : PySem.W.nsIn K mainGlobals "max" = some none) (z12 : PySem.W.nsIn K mainGlobals "min" = some none) :
    ∃ fd : FuncData, (∀ (s : Shared) (v : Value), BindsTo s fd ⟨[v], []⟩ [("_law_script", v)]) ∧ ∀ base : Heap, K.In base → base.Ns mainGlobals mg → FnG l.prog w K mg base CX0 5 fa fd ["_law_script"] (spLaw K) := by
  have e := hfa.symm.trans (PySem.W.mg_of X G a12)
  cases e
  have F1 := fun_mk (st := sEndless) l1 c1 k1
  have F2 := fun_mk (st := sHas) l2 c2 k2
  have F3 := fun_mk (st := sDeck) l3 c3 k3
  have F4 := fun_mk (st := sDraw) l4 c4 k4
  have F5 := fun_mk (st := sPick) l5 c5 k5
  have F6 := fun_mk (st := sFurther) l6 c6 k6
  have F7 := fun_mk (st := sRound) l7 c7 k7
  have F8 := fun_mk (st := sSpots) l8 c8 k8
  have F9 := fun_mk (st := sOnward) l9 c9 k9
  have F10 := fun_mk (st := sMixed) l10 c10 k10
  have F11 := fun_mk (st := sSome) l11 c11 k11
  have F12 := fun_mk (st := sLaw) l12 c12 k12
  have b1 := F1.binds (ps := ["arrows"]) fun _ _ _ _ _ _ us hl => match us, hl with | [_], _ => rfl
  have b2 := F2.binds (ps := ["arrows"]) fun _ _ _ _ _ _ us hl => match us, hl with | [_], _ => rfl
  have b3 := F3.binds (ps := ["_law_script"]) fun _ _ _ _ _ _ us hl => match us, hl with | [_], _ => rfl
  have b4 := F4.binds (ps := ["_law_deck_here", "_law_many"]) fun _ _ _ _ _ _ us hl => match us, hl with | [_, _], _ => rfl
  have b5 := F5.binds (ps := ["_law_deck_here", "_law_some_here"]) fun _ _ _ _ _ _ us hl => match us, hl with | [_, _], _ => rfl
  have b6 := F6.binds (ps := ["_law_leads", "_law_here"]) fun _ _ _ _ _ _ us hl => match us, hl with | [_, _], _ => rfl
  have b7 := F7.binds (ps := ["_law_some_here"]) fun _ _ _ _ _ _ us hl => match us, hl with | [_], _ => rfl
  have b8 := F8.binds (ps := ["_law_deck_here", "_law_size"]) fun _ _ _ _ _ _ us hl => match us, hl with | [_, _], _ => rfl
  have b9 := F9.binds (ps := ["_law_deck_here", "_law_spots_here", "_law_size"]) fun _ _ _ _ _ _ us hl => match us, hl with | [_, _, _], _ => rfl
  have b10 := F10.binds (ps := ["_law_deck_here", "_law_some_here"]) fun _ _ _ _ _ _ us hl => match us, hl with | [_, _], _ => rfl
  have b11 := F11.binds (ps := ["_law_deck_here"]) fun _ _ _ _ _ _ us hl => match us, hl with | [_], _ => rfl
  have T : Blt mg := ⟨PySem.W.mg_none_of X G z1, PySem.W.mg_none_of X G z2, PySem.W.mg_none_of X G z3, PySem.W.mg_none_of X G z4, PySem.W.mg_none_of X G z5, PySem.W.mg_none_of X G z6, PySem.W.mg_none_of X G z7, PySem.W.mg_none_of X G z8, PySem.W.mg_none_of X G z9, PySem.W.mg_none_of X G z10, PySem.W.mg_none_of X G z11, PySem.W.mg_none_of X G z12⟩
  have gEND : ∃ u, mg "END" = some u ∧ RelV (.int (-1)) u := ⟨_, PySem.W.mg_of X G e1, ⟨_, rfl⟩⟩
  refine ⟨PySem.W.fnOf "law" "law" (defArgs sLaw) (defBody sLaw) (defScope sLaw) .none kV12 dc12 pm12 an12 cd12 ct12, fun s v => .of_eq rfl, fun base _ _ => ?_⟩
  have h1 : Has l.prog w K mg base "endless_states" 1 ["arrows"] (spEnd K) := ⟨_, _, ok_endless F1 gEND, PySem.W.mg_of X G a1, k1, b1⟩
  have h2 : Has l.prog w K mg base "has_cycle" 2 ["arrows"] (spHas K) := ⟨_, _, ok_has F2 h1, PySem.W.mg_of X G a2, k2, b2⟩
  have h2k : HasKw l.prog w K mg base "has_cycle" 2 "arrows" (spHas K) := ⟨_, _, ok_has F2 h1, PySem.W.mg_of X G a2, k2, fun s u => .of_eq rfl⟩
  have h3 : Has l.prog w K mg base "_law_deck" 1 ["_law_script"] (spDeck K) := ⟨_, _, ok_deck F3 T, PySem.W.mg_of X G a3, k3, b3⟩
  have h4 : Has l.prog w K mg base "_law_draw" 1 ["_law_deck_here", "_law_many"] spDraw := ⟨_, _, ok_draw F4 T, PySem.W.mg_of X G a4, k4, b4⟩
  have h5 : Has l.prog w K mg base "_law_pick" 2 ["_law_deck_here", "_law_some_here"] (spPick K) := ⟨_, _, ok_pick F5 T h4, PySem.W.mg_of X G a5, k5, b5⟩
  have h6 : Has l.prog w K mg base "_law_further" 1 ["_law_leads", "_law_here"] (spFur K) := ⟨_, _, ok_further F6 T, PySem.W.mg_of X G a6, k6, b6⟩
  have h7 : Has l.prog w K mg base "_law_is_round" 2 ["_law_some_here"] (spRound K) := ⟨_, _, ok_round F7 T h6, PySem.W.mg_of X G a7, k7, b7⟩
  have h8 : Has l.prog w K mg base "_law_spots" 3 ["_law_deck_here", "_law_size"] spSpots := ⟨_, _, ok_spots F8 T h4 h5, PySem.W.mg_of X G a8, k8, b8⟩
  have h9 : Has l.prog w K mg base "_law_onward" 3 ["_law_deck_here", "_law_spots_here", "_law_size"] (spOnward K) := ⟨_, _, ok_onward F9 T h4 h5, PySem.W.mg_of X G a9, k9, b9⟩
  have h10 : Has l.prog w K mg base "_law_mixed" 2 ["_law_deck_here", "_law_some_here"] (spMixed K) := ⟨_, _, ok_mixed F10 T h4, PySem.W.mg_of X G a10, k10, b10⟩
  have h11 : Has l.prog w K mg base "_law_some" 4 ["_law_deck_here"] (spSome K) := ⟨_, _, ok_some F11 T h4 h5 h8 h9 h10, PySem.W.mg_of X G a11, k11, b11⟩
  exact ok_law F12 T h3 h11 h7 h2 h2k h10
end K24
open PySem PySem.W PyProof.Rows
set_option maxHeartbeats 0 in
theorem PySem.Challenge.cw_loopsaid_k24_cycles_among_arrows_holds : PySem.Challenge.rw_loopsaid_k24_cycles_among_arrows.Holds := by
  w_on; o_law; k_head; (case hw => w_witness2)
  k_fill
  refine GL.walk_ofG (l := PySem.Challenge.rw_loopsaid_k24_cycles_among_arrows) (n := 63) (k := 5) (x := "_law_script") (CX := fun _ => L2.CX0) (sp := fun w => K24.spLaw _) rfl (by decide) rfl ⟨rfl, by decide, by decide⟩ (fun w h Y => PySem.W.kIn_of Y) ?F (fun _ _ a ns hl _ hS => ⟨a, ns, rfl, hS, hl, fun _ => rfl⟩) (fun _ _ _ _ _ h => h)
  case F =>
    intro w mg fa h KX G hmg
    refine' K24.all_mk KX G hmg ?a1 ?l1 ?c1 ?k1 ?a2 ?l2 ?c2 ?k2 ?a3 ?l3 ?c3 ?k3 ?a4 ?l4 ?c4 ?k4 ?a5 ?l5 ?c5 ?k5 ?a6 ?l6 ?c6 ?k6 ?a7 ?l7 ?c7 ?k7 ?a8 ?l8 ?c8 ?k8 ?a9 ?l9 ?c9 ?k9 ?a10 ?l10 ?c10 ?k10 ?a11 ?l11 ?c11 ?k11 ?a12 ?l12 ?c12 ?k12 ?e1 ?z1 ?z2 ?z3 ?z4 ?z5 ?z6 ?z7 ?z8 ?z9 ?z10 ?z11 ?z12
    (case a1 => k_is); (case l1 => k_is); (case c1 => k_is); (case k1 => k_is); (case a2 => k_is); (case l2 => k_is); (case c2 => k_is); (case k2 => k_is); (case a3 => k_is); (case l3 => k_is); (case c3 => k_is); (case k3 => k_is); (case a4 => k_is); (case l4 => k_is); (case c4 => k_is); (case k4 => k_is); (case a5 => k_is); (case l5 => k_is); (case c5 => k_is); (case k5 => k_is); (case a6 => k_is); (case l6 => k_is); (case c6 => k_is); (case k6 => k_is); (case a7 => k_is); (case l7 => k_is); (case c7 => k_is); (case k7 => k_is); (case a8 => k_is); (case l8 => k_is); (case c8 => k_is); (case k8 => k_is); (case a9 => k_is); (case l9 => k_is); (case c9 => k_is); (case k9 => k_is); (case a10 => k_is); (case l10 => k_is); (case c10 => k_is); (case k10 => k_is); (case a11 => k_is); (case l11 => k_is); (case c11 => k_is); (case k11 => k_is); (case a12 => k_is); (case l12 => k_is); (case c12 => k_is); (case k12 => k_is); (case e1 => k_is); (case z1 => k_is); (case z2 => k_is); (case z3 => k_is); (case z4 => k_is); (case z5 => k_is); (case z6 => k_is); (case z7 => k_is); (case z8 => k_is); (case z9 => k_is); (case z10 => k_is); (case z11 => k_is); (case z12 => k_is)
