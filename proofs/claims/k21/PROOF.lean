import PyProof.Rows.All
import Wide.All
import OpenK.AllK
import Wide.FinOn
import HandS.ForMost
import HandS.TupSets
import KE.SortData
import HandS.SetFor
import HandS.Strs
import HandS.Style
import HandS.SetKeys
import HandS.DictComp
import HandS.DictEq
import HandS.Conv
import HandS.More
import HandS.Wide
import HandS.SortInts
import HandS.Text
import HandS.Walk
import HandS.IsInst
import HandS.TupAny
import HandS.Zip
import KE.LtData
import KE.DataCmp
import HandS.Deep
import HandS.Codes
import PyProof.ReprLen
import HandS.NoneIn
import PySem.Challenge.RW_loopsaid_k21_removal_sequences
import PyProof.P3In
import PyProof.FactsAll.dict
import KE.GoesComp
import KE.GoesMore
import HandS.Keys
import HandS.TupMul
import PyProof.Rows.IntBool
import PyProof.FactsAll.bool
import HandS.List
import KE.KRevSl
import PyProof.CallFns
import HandS.Ends
set_option Elab.async false
set_option linter.all false
set_option maxRecDepth 100000
set_option maxHeartbeats 4000000
/-! Sets of heap keys (flat tuples of ints and texts), up to 76 members: own port for any kind of key. -/
namespace KS
open PySem PySem.Spec PyProof.Rows L2

/-- what a set asks of its members -/
structure SKind (P : Program) (w : World) (K : Type) [DecidableEq K] where
  is : Heap → K → Addr → Prop
  hash : K → Int
  draws : K → Nat
  inj : ∀ {h : Heap} {a : Addr} {x y : K}, is h x a → is h y a → x = y
  tup : ∀ {h : Heap} {a : Addr} {x : K}, is h x a → ∃ o its n, h.get? a = some o ∧ o.data = .seq its n
  keep : ∀ {h h' : Heap} {a : Addr} {x : K}, is h x a → (∀ b o its n, h.get? b = some o → o.data = .seq its n → h'.get? b = some o) → is h' x a
  hashed : ∀ {A : Around} {E : Value → Shared → Prop} {s : Shared} {k : K} {a : Addr} {Q : Int → Shared → Prop}, A.units < cLine → is s.heap k a →
    Q (hash k) { s with toks := s.toks + draws k } → wpAny (model P w) A (pyHash (.ref a)) Q E s
  eqs : ∀ {A : Around} {E : Value → Shared → Prop} {s : Shared} {x y : K} {a b : Addr} {Q : Bool → Shared → Prop}, A.units < cLine → is s.heap x a → is s.heap y b →
    Q (decide (x = y)) s → wpAny (model P w) A (eqBool (.ref a) (.ref b)) Q E s
  quiet : ∀ {A : Around} {E : Value → Shared → Prop} {s : Shared} {k : K} {a : Addr} {Q : Bool → Shared → Prop}, is s.heap k a → Q true s → wpAny (model P w) A (eqIsQuiet 8 (.ref a)) Q E s
  noStmt : ∀ {A : Around} {E : Value → Shared → Prop} {s : Shared} {k : K} {a : Addr} {Q : Bool → Shared → Prop}, is s.heap k a → Q false s → wpAny (model P w) A (ofAClassStatement 8 (.ref a)) Q E s
  byVal : ∀ {A : Around} {E : Value → Shared → Prop} {s : Shared} {k : K} {a : Addr} {Q : Bool → Shared → Prop}, is s.heap k a → (∀ b, Q b s) → wpAny (model P w) A (hashByValue 8 (.ref a)) Q E s

section kinds
variable {P : Program} {w : World} {A : Around} {E : Value → Shared → Prop} {s : Shared}
theorem flat_vals {k : List Key} {vs : List Value} (h : ItemsAre (mixKind P w) k vs) : ∀ v ∈ vs, (∃ i t, v = Value.int i t) ∨ ∃ x t, v = Value.str x t := by
  induction h with
  | nil => intro v hv; cases hv
  | @cons k0 v0 ks vs0 h1 _ ih =>
    intro v hv
    rcases List.mem_cons.mp hv with rfl | hv
    · rcases keyIs_shape (show keyIs k0 v = true from h1) with ⟨i, t, _, e⟩ | ⟨x, t, _, e⟩
      · exact .inl ⟨i, t, e⟩
      · exact .inr ⟨x, t, e⟩
    · exact ih v hv
theorem stmt_flat (n : Nat) {v : Value} (h : (∃ i t, v = Value.int i t) ∨ ∃ x t, v = Value.str x t) : ofAClassStatement n v = pure false := by
  rcases h with ⟨i, t, rfl⟩ | ⟨x, t, rfl⟩ <;> cases n <;> rfl
theorem hash_flat (n : Nat) {v : Value} (h : (∃ i t, v = Value.int i t) ∨ ∃ x t, v = Value.str x t) : ∃ b, hashByValue n v = pure b := by
  rcases h with ⟨i, t, rfl⟩ | ⟨x, t, rfl⟩ <;> cases n <;> first | exact ⟨true, rfl⟩ | exact ⟨false, rfl⟩
/-- a loop over flat items that answers nothing -/
theorem loop_flat {β : Type} {items : Array Value} {b0 : β} {f : Value → β → Sem (ForInStep β)} {R : β → Shared → Prop} (good : β → Prop) (g0 : good b0)
    (hall : ∀ v ∈ items.toList, (∃ i t, v = Value.int i t) ∨ ∃ x t, v = Value.str x t)
    (step : ∀ v b (s' : Shared), ((∃ i t, v = Value.int i t) ∨ ∃ x t, v = Value.str x t) → good b → s' = s → wpAny (model P w) A (f v b) (fun r s2 => s2 = s ∧ ∃ c, r = .yield c ∧ good c) E s')
    (fin : ∀ b, good b → R b s) : wpAny (model P w) A (forIn items b0 f) R E s := by
  rw [← Array.forIn_toList]
  refine wpAny_forIn_list _ (fun rest r s' => good r ∧ s' = s ∧ ∀ v ∈ rest, (∃ i t, v = Value.int i t) ∨ ∃ x t, v = Value.str x t) _ ?_ ?_ _ _ ⟨g0, rfl, hall⟩
  · rintro v rest r s' ⟨hg, e, hr⟩
    refine wpAny_mono (step v r s' (hr v List.mem_cons_self) hg e) (fun q s2 hq => ?_) (fun _ _ z => z)
    obtain ⟨e2, c, rfl, gc⟩ := hq
    exact ⟨gc, e2, fun u hu => hr u (List.mem_cons_of_mem _ hu)⟩
  · rintro r s' ⟨hg, rfl, _⟩
    exact fin r hg
theorem no_stmt {k : List Key} {b : Addr} {Q : Bool → Shared → Prop} (hk : IsTupleKey (mixKind P w) s.heap k b) (h : Q false s) : wpAny (model P w) A (ofAClassStatement 8 (.ref b)) Q E s := by
  have hT := hk.typeIs
  obtain ⟨o, items, n, ho, _, hd, hi⟩ := hk
  unfold ofAClassStatement
  refine wpAny_bind (wpAny_typeOf hT ?_)
  dsimp only
  simp only [show (("tuple" : String) == "tuple") = true by decide, if_true, Bool.not_true, Bool.false_eq_true, if_false]
  try refine wpAny_bind (wpAny_pure ?_)
  try simp only [Bool.not_true, Bool.false_eq_true, if_false]
  refine wpAny_bind (wpAny_seqItems ho hd ?_)
  dsimp only
  refine wpAny_bind (loop_flat (fun r => r.1 = none) rfl (flat_vals hi) (fun v r s' hv hr e => ?_) (fun r hr => ?_))
  · subst e
    rw [stmt_flat _ hv]
    refine wpAny_bind (wpAny_pure ?_)
    simp only [Bool.false_eq_true, if_false]
    exact wpAny_pure ⟨rfl, _, rfl, rfl⟩
  · obtain ⟨r1, r2⟩ := r
    simp only at hr
    subst hr
    exact wpAny_pure h
theorem by_val {k : List Key} {b : Addr} {Q : Bool → Shared → Prop} (hk : IsTupleKey (mixKind P w) s.heap k b) (h : ∀ b, Q b s) : wpAny (model P w) A (hashByValue 8 (.ref b)) Q E s := by
  have hT := hk.typeIs
  obtain ⟨o, items, n, ho, _, hd, hi⟩ := hk
  unfold hashByValue
  refine wpAny_bind (wpAny_specialOf hT F.slot_tuple_hash.lookup ?_)
  show wpAny _ _ (seqItems? (.ref b) >>= _) _ _ s
  refine wpAny_bind (wpAny_seqItems ho hd ?_)
  refine wpAny_bind ?_
  show wpAny _ _ (forIn items _ _) _ _ s
  rw [← Array.forIn_toList]
  refine wpAny_forIn_list _ (fun rest r s' => r.1 = none ∧ s' = s ∧ ∀ v ∈ rest, (∃ i t, v = Value.int i t) ∨ ∃ x t, v = Value.str x t) _ ?_ ?_ _ _ ⟨rfl, rfl, flat_vals hi⟩
  · rintro v rest r s' ⟨hr, rfl, hall⟩
    obtain ⟨q, e⟩ := hash_flat 7 (hall v List.mem_cons_self)
    rw [e]
    refine wpAny_bind (wpAny_pure ?_)
    cases q
    · simp only [Bool.not_false, if_true]
      exact wpAny_pure (wpAny_pure (h false))
    · simp only [Bool.not_true, Bool.false_eq_true, if_false]
      exact wpAny_pure ⟨rfl, rfl, fun u hu' => hall u (List.mem_cons_of_mem _ hu')⟩
  · rintro ⟨r1, r2⟩ s' ⟨hr, rfl, _⟩
    simp only at hr
    subst hr
    exact wpAny_pure (h true)
end kinds

/-- flat tuples of ints and texts -/
def mix (P : Program) (w : World) : SKind P w (List Key) where
  is := IsTupleKey (mixKind P w)
  hash := tupleKeyHash (mixKind P w)
  draws := fun ks => ks.length + 1
  inj := fun hx hy => hx.inj hy
  tup := fun ⟨o, its, n, ho, _, hd, _⟩ => ⟨o, its, n, ho, hd⟩
  keep := fun ⟨o, its, n, ho, hc, hd, hi⟩ k => ⟨o, its, n, k _ _ _ _ ho hd, hc, hd, hi⟩
  hashed := fun hu hk h => wpAny_pyHash_tuple hu hk h
  eqs := fun hu hx hy h => wpAny_eqBool_tuple hu hx hy h
  quiet := fun hk h => wpAny_eqIsQuiet_tuple hk h
  noStmt := fun hk h => no_stmt hk h
  byVal := fun hk h => by_val hk h
end KS

namespace KS
open PySem PySem.Spec PyProof.Rows L2
section
variable {P : Program} {w : World} {A : Around} {E : Value → Shared → Prop} {s : Shared} {K : Type} [DecidableEq K] {κ : SKind P w K}

/-- a search among members shows nothing -/
theorem unseen {k : K} {b : Addr} {Q : Bool → Shared → Prop} (hk : κ.is s.heap k b) {ys : List Value} (hy : ∀ y ∈ ys, ∃ k' c, y = Value.ref c ∧ κ.is s.heap k' c) (h : Q false s) :
    wpAny (model P w) A (searchCouldBeSeen (.ref b) ys) Q E s := by
  unfold searchCouldBeSeen
  refine wpAny_bind (wpAny_forIn_list _ (fun rest r s' => r.1 = none ∧ s' = s ∧ ∀ y ∈ rest, ∃ k' c, y = Value.ref c ∧ κ.is s.heap k' c) _ ?_ ?_ _ _ ⟨rfl, rfl, hy⟩)
  · rintro v rest r s' ⟨hr, rfl, hall⟩
    obtain ⟨k', c, rfl, hc⟩ := hall v List.mem_cons_self
    have tl := fun u hu' => hall u (List.mem_cons_of_mem _ hu')
    dsimp only
    by_cases hv : (b == c || (carriedByValue (.ref b) && carriedByValue (.ref c))) = true
    · exact wp_if_pos hv (wpAny_pure ⟨rfl, rfl, tl⟩)
    · refine wp_if_neg hv (wpAny_bind (κ.quiet hk ?_))
      simp only [Bool.not_true, Bool.false_eq_true, if_false]
      refine wpAny_bind (κ.quiet hc ?_)
      simp only [Bool.not_true, Bool.false_eq_true, if_false]
      refine wpAny_bind (κ.noStmt hk ?_)
      simp only [Bool.false_eq_true, if_false]
      refine wpAny_bind (κ.noStmt hc ?_)
      simp only [Bool.false_eq_true, if_false]
      exact wpAny_pure ⟨rfl, rfl, tl⟩
  · rintro ⟨r1, r2⟩ s' ⟨hr, rfl, _⟩
    simp only at hr
    subst hr
    exact wpAny_pure h

def krows (κ : SKind P w K) (L : List (Addr × K)) : List (Int × Value) := L.map fun p => (κ.hash p.2, Value.ref p.1)
/-- the set at a holds the keys of L -/
structure KSetAt (κ : SKind P w K) (h : Heap) (a : Addr) (L : List (Addr × K)) (es : Array (Int × Value)) (ep : Nat) (t : SetTable) : Prop where
  obj : ∃ o, h.get? a = some o ∧ o.ExactSet ∧ o.data = .set es ep t
  rows : es.toList = krows κ L
  tab : TabOk t (L.map fun p => κ.hash p.2)
  nd : (L.map (·.2)).Nodup
  mem : ∀ p ∈ L, κ.is h p.2 p.1
  led : w.params.followText "set-order" = true ∨ t.led = true
  room : L.length * 5 < t.mask * 3
  few : L.length ≤ 76
variable {a : Addr} {L : List (Addr × K)} {es : Array (Int × Value)} {ep : Nat} {t : SetTable}
theorem rows_size (hr : es.toList = krows κ L) : es.size = L.length := by
  have h := congrArg List.length hr
  unfold krows at h
  simpa using h
theorem rows_get (hr : es.toList = krows κ L) {i : Nat} {p : Addr × K} (h : L[i]? = some p) : es[i]? = some (κ.hash p.2, Value.ref p.1) := by
  rw [← Array.getElem?_toList, hr]
  unfold krows
  rw [List.getElem?_map, h]
  rfl
theorem KSetAt.size (R : KSetAt κ s.heap a L es ep t) : es.size = L.length := rows_size R.rows
theorem KSetAt.fits (R : KSetAt κ s.heap a L es ep t) : t.fits es.size = true := by
  have h1 := R.tab.sz
  rw [List.length_map] at h1
  have h2 := R.size
  have h3 := R.room
  unfold SetTable.fits SetTable.fill
  rw [R.tab.dm, Bool.and_eq_true, beq_iff_eq, decide_eq_true_eq]
  show t.place.size = es.size ∧ t.place.size + 0 ≤ t.mask
  omega
theorem KSetAt.noGap (R : KSetAt κ s.heap a L es ep t) : ¬ t.gaveWay = true := by
  unfold SetTable.gaveWay
  rw [mask_odd R.tab.mok]
  decide

/-- where the search for the key of hash h stands after c steps -/
abbrev at_ (t : SetTable) (h : Int) (c : Nat) : SetTable.Probe := nth t.mask (runAt t.mask (SetTable.bits h % (t.mask + 1)) (SetTable.bits h)) c
theorem at_add (t : SetTable) (h : Int) (c q : Nat) : nth t.mask (at_ t h c) q = at_ t h (c + q) := (nth_add t.mask c _ q).symm
theorem at_j (t : SetTable) (h : Int) (c q : Nat) : (nth t.mask (at_ t h c) q).j = way t.mask h (c + q) := congrArg SetTable.Probe.j (at_add t h c q)
theorem at_dummy (t : SetTable) (h : Int) (c : Nat) : (at_ t h c).dummy = none := by
  have key : ∀ (n : Nat) (p : SetTable.Probe), p.dummy = none → (nth t.mask p n).dummy = none := by
    intro n
    induction n with
    | zero => exact fun _ h => h
    | succ n ih =>
      intro p h
      refine ih (adv t.mask p) ?_
      unfold adv
      split <;> exact h
  exact key c _ rfl

/-- THE SEARCH, from its c-th step on -/
theorem seek (R : KSetAt κ s.heap a L es ep t) {x : Addr} {k : K} (hx : κ.is s.heap k x) (hu : A.units < cLine) {N : Nat} (hN : N < 10 * SetTable.turns t.mask)
    (hgap : way t.mask (κ.hash k) N ∉ t.place.toList) (hbef : ∀ c, c < N → way t.mask (κ.hash k) c ∈ t.place.toList) {Q : SetFound → Shared → Prop}
    (hin : k ∈ L.map (·.2) → Q (.there none) s) (hout : k ∉ L.map (·.2) → Q (.free (way t.mask (κ.hash k) N) false) s) :
    ∀ (f c : Nat) (stand : Option SetTable.Probe), stand.getD (t.probeStart (κ.hash k)) = at_ t (κ.hash k) c → c ≤ N → N - c < f →
      (∀ (i : Nat) p, L[i]? = some p → p.2 = k → ∃ c', c ≤ c' ∧ c' < N ∧ t.place.toList[i]? = some (way t.mask (κ.hash k) c')) →
      wpAny (model P w) A (setSearchFrom a (.ref x) (κ.hash k) true f stand) Q E s
  | 0, _, _, _, _, hf, _ => absurd hf (Nat.not_lt_zero _)
  | f + 1, c, stand, hst, hc, hf, hre => by
    obtain ⟨o, ho, hex, hd⟩ := R.obj
    rw [setSearchFrom_succ]
    refine wpAny_bind (wpAny_setState_of ho hd R.fits ?_)
    dsimp only
    refine wp_if_neg R.noGap ?_
    try refine wpAny_bind (wpAny_pure ?_)
    have spec := go_spec t R.tab.ris R.tab.dm (fun i => (es[i]?.map (·.1)).getD 0) (κ.hash k) (10 * SetTable.turns t.mask) (N - c) _ (at_dummy t (κ.hash k) c) (by omega)
      (fun q hq => by rw [at_j]; exact hbef (c + q) (by omega)) (by rw [at_j, show c + (N - c) = N by omega]; exact hgap)
    have hashAt : ∀ (i : Nat) p, L[i]? = some p → (es[i]?.map (·.1)).getD 0 = κ.hash p.2 := fun i p hp => by
      rw [rows_get R.rows hp]
      rfl
    rcases spec with ⟨q, i, hq, hi, hh, hno, hpr⟩ | ⟨hno, hpr⟩
    · rw [show t.probe (fun i => (es[i]?.map (·.1)).getD 0) (κ.hash k) (stand.getD (t.probeStart (κ.hash k))) = some (.candidate (way t.mask (κ.hash k) (c + q)) i (at_ t (κ.hash k) (c + (q + 1)))) by
        rw [hst, ← at_j, ← at_add]
        exact hpr]
      dsimp only
      rw [at_j] at hi
      have hil : i < L.length := by
        have h1 : i < t.place.toList.length := (List.getElem?_eq_some_iff.mp hi).1
        have h2 := R.tab.sz
        rw [List.length_map] at h2
        rw [Array.length_toList] at h1
        omega
      obtain ⟨p, hp⟩ : ∃ p, L[i]? = some p := ⟨L[i], List.getElem?_eq_getElem hil⟩
      have hmem : p ∈ L := List.mem_of_getElem? hp
      have more : wpAny (model P w) A (searchRest a (.ref x) (κ.hash k) true f es t (way t.mask (κ.hash k) (c + q)) i (at_ t (κ.hash k) (c + (q + 1)))) Q E s := by
        unfold searchRest
        rw [rows_get R.rows hp]
        dsimp only
        refine wpAny_bind (wpAny_holding (κ.eqs hu (R.mem p hmem) hx ?_))
        refine wpAny_bind (wpAny_setState_of ho hd R.fits ?_)
        dsimp only
        by_cases hkk : p.2 = k
        · refine wp_if_pos (by simp [hkk]) (wpAny_pure (hin ?_))
          exact List.mem_map.mpr ⟨p, hmem, hkk⟩
        · refine wp_if_neg (by simp [hkk]) ?_
          try refine wpAny_bind (wpAny_pure ?_)
          rw [sameMem]
          dsimp only
          have hsl : t.slot (way t.mask (κ.hash k) (c + q)) = .live i := slot_live R.tab.ris hi
          simp only [if_true, hsl, rows_get R.rows hp]
          refine wpAny_bind (wpAny_isSame_ref_self (wpAny_bind (wpAny_pure ?_)))
          simp only [if_true]
          refine wp_if_neg (by simp [hkk]) ?_
          refine seek R hx hu hN hgap hbef hin hout f (c + (q + 1)) _ rfl (by omega) (by omega) fun j p' hj hk' => ?_
          obtain ⟨c', a1, a2, a3⟩ := hre j p' hj hk'
          refine ⟨c', ?_, a2, a3⟩
          rcases Nat.lt_trichotomy c' (c + q) with z | z | z
          · refine absurd ((hashAt j p' hj).trans (congrArg κ.hash hk')) (hno (c' - c) j (by omega) ?_)
            rw [at_j, show c + (c' - c) = c' by omega]
            exact a3
          · rw [z] at a3
            have s0 := slot_live R.tab.ris a3
            rw [hsl] at s0
            injection s0 with s0
            rw [← s0, hp] at hj
            exact absurd ((congrArg Prod.snd (Option.some.inj hj)).trans hk') hkk
          · omega
      by_cases hl : t.led = true
      · refine wp_if_neg (by simp [hl]) ?_
        try refine wpAny_bind (wpAny_pure ?_)
        exact more
      · refine wp_if_pos (by simp [hl]) (wpAny_bind (unseen (κ := κ) hx (fun y hy => ?_) ?_))
        · obtain ⟨e, he, rfl⟩ := List.mem_map.mp hy
          have he1 : e ∈ es ∧ e.1 = κ.hash k := by simpa using he
          have he2 : e ∈ es.toList := by simpa using he1.1
          rw [R.rows] at he2
          obtain ⟨p2, hp2, rfl⟩ := List.mem_map.mp he2
          exact ⟨p2.2, p2.1, rfl, R.mem p2 hp2⟩
        · refine wp_if_neg (by decide) ?_
          try refine wpAny_bind (wpAny_pure ?_)
          exact more
    · rw [show t.probe (fun i => (es[i]?.map (·.1)).getD 0) (κ.hash k) (stand.getD (t.probeStart (κ.hash k))) = some (.empty (way t.mask (κ.hash k) N) none) by
        have e2 : way t.mask (κ.hash k) N = (nth t.mask (at_ t (κ.hash k) c) (N - c)).j := by
          rw [at_j, show c + (N - c) = N by omega]
        rw [hst, e2]
        exact hpr]
      dsimp only
      refine wpAny_pure (hout fun hm => ?_)
      obtain ⟨p, hp, hk⟩ := List.mem_map.mp hm
      obtain ⟨i, hi, e0⟩ := List.getElem_of_mem hp
      have hi' : L[i]? = some p := by rw [List.getElem?_eq_getElem hi, e0]
      obtain ⟨c', a1, a2, a3⟩ := hre i p hi' hk
      refine hno (c' - c) i (by omega) (by rw [at_j, show c + (c' - c) = c' by omega]; exact a3) ?_
      exact (hashAt i p hi').trans (congrArg κ.hash hk)

/-- the search as adding asks for it -/
theorem sought (R : KSetAt κ s.heap a L es ep t) {x : Addr} {k : K} (hx : κ.is s.heap k x) (hu : A.units < cLine) {Q : SetFound → Shared → Prop}
    (hin : k ∈ L.map (·.2) → Q (.there none) s)
    (hout : ∀ N, k ∉ L.map (·.2) → way t.mask (κ.hash k) N ∉ t.place.toList → (∀ c, c < N → way t.mask (κ.hash k) c ∈ t.place.toList) → Q (.free (way t.mask (κ.hash k) N) false) s) :
    wpAny (model P w) A (setSearch a (.ref x) (κ.hash k) true) Q E s := by
  have hroom := R.room
  obtain ⟨N, hNf, hN, hNb⟩ := R.tab.first (by rw [List.length_map]; omega) (κ.hash k)
  have hbig : N < 100000 := by
    have : 10 * SetTable.turns t.mask ≤ 1420 := by
      unfold SetTable.turns
      rcases R.tab.mok with e | e | e <;> omega
    omega
  unfold setSearch
  refine seek R hx hu hNf hN hNb hin (fun hn => hout N hn hN hNb) 100000 0 none rfl (Nat.zero_le _) (by omega) fun i p hp hk => ?_
  have hi : (L.map fun p => κ.hash p.2)[i]? = some (κ.hash k) := by
    rw [List.getElem?_map, hp, ← hk]
    rfl
  have hil : i < t.place.toList.length := by
    have h1 : i < L.length := (List.getElem?_eq_some_iff.mp hp).1
    have h2 := R.tab.sz
    rw [List.length_map] at h2
    rw [Array.length_toList]
    omega
  have hj := List.getElem?_eq_getElem hil
  obtain ⟨c, hc, e⟩ := R.tab.before hN hi hj
  exact ⟨c, Nat.zero_le _, hc, by rw [hj, e]⟩
end
end KS

namespace KS
open PySem PySem.Spec PyProof.Rows L2
section
variable {P : Program} {w : World} {A : Around} {E : Value → Shared → Prop} {s : Shared} {K : Type} [DecidableEq K] {κ : SKind P w K}

/-- a member is not the set itself -/
theorem is_same {h h' : Heap} {k : K} {a b : Addr} {o : Obj} {es : Array (Int × Value)} {ep : Nat} {t : SetTable} (hb : κ.is h k b) (ho : h.get? a = some o) (hd : o.data = .set es ep t) (hs : Heap.SameBut a h h') : κ.is h' k b :=
  κ.keep hb fun c u its n hu hc => by
    refine (hs.2 c fun e => ?_).trans hu
    subst e
    rw [ho] at hu
    cases hu
    rw [hd] at hc
    cases hc
theorem is_mono {h h' : Heap} {k : K} {b : Addr} (x : κ.is h k b) (hk : ∀ c o, h.get? c = some o → h'.get? c = some o) : κ.is h' k b := κ.keep x fun c u _ _ hu _ => hk c u hu
theorem krows_put (L : List (Addr × K)) (p : Nat) (x : Addr) (k : K) : krows κ (L.take p ++ (x, k) :: L.drop p) = (krows κ L).take p ++ (κ.hash k, Value.ref x) :: (krows κ L).drop p := by
  unfold krows
  rw [List.map_append, List.map_cons, List.map_take, List.map_drop]
theorem picks_all {α : Type} (L : List α) : (List.range L.length).filterMap (fun i => L[i]?) = L := by
  have key : ∀ n, n ≤ L.length → (List.range n).filterMap (fun i => L[i]?) = L.take n := by
    intro n
    induction n with
    | zero => intro _; rfl
    | succ n ih =>
      intro hn
      rw [List.range_succ, List.filterMap_append, ih (Nat.le_of_lt hn), List.take_succ, List.getElem?_eq_getElem hn, List.filterMap_cons_some (List.getElem?_eq_getElem hn)]
      rfl
  rw [key L.length (Nat.le_refl _), List.take_length]
theorem reorder (L : List (Addr × K)) (es : Array (Int × Value)) (order : Array Nat) (hr : es.toList = krows κ L) (hp : order.toList.Perm (List.range L.length)) :
    ∃ L2, (order.filterMap (es[·]?)).toList = krows κ L2 ∧ L2.Perm L ∧ (L2.map fun p => κ.hash p.2) = order.toList.map fun i => (es.map (·.1)).getD i 0 := by
  have hsz := rows_size hr
  have ent : ∀ i (h : i < L.length), es[i]? = some (κ.hash (L[i]).2, Value.ref (L[i]).1) := fun i h => rows_get hr (List.getElem?_eq_getElem h)
  have key : ∀ l : List Nat, (∀ i ∈ l, i < L.length) → ∃ L2 : List (Addr × K), l.filterMap (fun i => es[i]?) = krows κ L2 ∧ L2 = l.filterMap (fun i => L[i]?) ∧ (L2.map fun p => κ.hash p.2) = l.map fun i => (es.map (·.1)).getD i 0 := by
    intro l
    induction l with
    | nil => exact fun _ => ⟨[], rfl, rfl, rfl⟩
    | cons i l ih =>
      intro hl
      have hi := hl i List.mem_cons_self
      obtain ⟨L2, e1, e2, e3⟩ := ih fun j hj => hl j (List.mem_cons_of_mem _ hj)
      refine ⟨L[i] :: L2, ?_, ?_, ?_⟩
      · rw [List.filterMap_cons_some (ent i hi), e1]
        rfl
      · rw [List.filterMap_cons_some (List.getElem?_eq_getElem hi), e2]
      · have e5 : (es.map (·.1))[i]? = some (κ.hash (L[i]).2) := by
          rw [Array.getElem?_map, ent i hi]
          rfl
        rw [List.map_cons, List.map_cons, e3, show (es.map (·.1)).getD i 0 = κ.hash (L[i]).2 by simp [Array.getD_eq_getD_getElem?, e5]]
  obtain ⟨L2, e1, e2, e3⟩ := key order.toList fun i hi => List.mem_range.mp (hp.mem_iff.mp hi)
  refine ⟨L2, by first | (rw [Array.toList_filterMap]; exact e1) | simpa using e1, ?_, e3⟩
  have h1 : L2.Perm ((List.range L.length).filterMap fun i => L[i]?) := by
    rw [e2]
    exact hp.filterMap _
  rwa [picks_all] at h1

/-- only the mark of plainness apart -/
theorem TabOk_plain {t : SetTable} {hs : List Int} (T : TabOk t hs) (b : Bool) : TabOk { t with plain := b } hs := ⟨T.ris, T.dm, T.sz, T.mok, T.bd, T.reach⟩

variable {a : Addr} {L : List (Addr × K)} {es : Array (Int × Value)} {ep : Nat} {t : SetTable}
/-- the table laid anew, larger -/
theorem relaid_at {o : Obj} (ho : s.heap.get? a = some o) (hex : o.ExactSet) (hd : o.data = .set es ep t) (hrows : es.toList = krows κ L) (hsz : t.place.size = es.size) (hdm : t.dummies = #[]) (hfl : es.size ≤ t.mask)
    (nd : (L.map (·.2)).Nodup) (mem : ∀ p ∈ L, κ.is s.heap p.2 p.1) (ld : w.params.followText "set-order" = true ∨ t.led = true) (few : L.length ≤ 76) {wanted M : Nat}
    (hw : SetTable.sizeAbove wanted - 1 = M) (hM : MaskOk M) (hw2 : SetTable.sizeAbove wanted ≤ 128) (hn : L.length * 5 < M * 3) {Q : Unit → Shared → Prop}
    (hQ : ∀ h' L' es' ep' t', Heap.SameBut a s.heap h' → KSetAt κ h' a L' es' ep' t' → L'.Perm L → Q () { s with heap := h' }) : wpAny (model P w) A (setRelay a wanted) Q E s := by
  have hsl := rows_size hrows
  have hfits : t.fits es.size = true := by
    unfold SetTable.fits SetTable.fill
    rw [hdm, Bool.and_eq_true, beq_iff_eq, decide_eq_true_eq]
    show t.place.size = es.size ∧ t.place.size + 0 ≤ t.mask
    omega
  obtain ⟨t', order, e, hp, T, em, el, _, _⟩ := relaid_ok t (hs := es.map (·.1)) (wanted := wanted) hw hM (by rw [Array.size_map, hsl]; omega)
  rw [Array.size_map, hsl] at hp
  obtain ⟨L2, r1, r2, r3⟩ := reorder (κ := κ) L es order hrows hp
  rw [← r3] at T
  have hs2 : (order.filterMap (es[·]?)).size = es.size := by
    rw [rows_size r1, r2.length_eq, hsl]
  rw [setRelay_eq]
  refine wpAny_bind (wpAny_setState_of ho hd hfits ?_)
  dsimp only
  refine wp_if_neg (by rw [sizeLine_eq]; omega) ?_
  try refine wpAny_bind (wpAny_pure ?_)
  rw [e]
  dsimp only
  refine wpAny_bind (wp_if_neg (by rw [hs2]; simp) ?_)
  try refine wpAny_bind (wpAny_pure ?_)
  refine wpAny_pure ?_
  dsimp only
  refine wpAny_storeSet_of ho hd ?_ (by rw [hs2, hsl, sizeLine_eq]; omega)
  have sb : Heap.SameBut a s.heap (s.heap.update a (Obj.putSet (order.filterMap (es[·]?)) t')) := Heap.SameBut.update ..
  refine hQ _ L2 (order.filterMap (es[·]?)) (ep + 1) t' sb ?_ r2
  refine ⟨⟨_, store_at ho hd, ⟨hex.1, hex.2.1, hex.2.2⟩, rfl⟩, r1, T, (r2.map (·.2)).nodup_iff.mpr nd, fun p hpm => is_same (mem p (r2.mem_iff.mp hpm)) ho hd sb, by rw [el]; exact ld, ?_, by rw [r2.length_eq]; exact few⟩
  rw [r2.length_eq, em]
  exact hn

/-- ADDING -/
theorem added (R : KSetAt κ s.heap a L es ep t) {x : Addr} {k : K} (hx : κ.is s.heap k x) (hu : A.units < cLine) (hfew : L.length + 1 ≤ 76) {Q : Bool → Shared → Prop}
    (hQ : ∀ b h' L' es' ep' t', Heap.SameBut a s.heap h' → KSetAt κ h' a L' es' ep' t' → (k ∈ L.map (·.2) → L' = L) → (k ∉ L.map (·.2) → L'.Perm ((x, k) :: L)) → Q b { s with heap := h' }) :
    wpAny (model P w) A (setAddHashed a (.ref x) (κ.hash k)) Q E s := by
  obtain ⟨o, ho, hex, hd⟩ := R.obj
  have hsl := R.size
  have hroom := R.room
  unfold setAddHashed
  refine wpAny_holding ?_
  rw [show (100000 : Nat) = 99999 + 1 from rfl, setAddHashedIn_succ]
  refine wpAny_bind (wpAny_setState_of ho hd R.fits ?_)
  dsimp only
  refine wp_if_neg (by simp [byScan, Value.scannable]) ?_
  try refine wpAny_bind (wpAny_pure ?_)
  refine wpAny_bind (sought R hx hu (fun hm => ?_) fun N hm hN hb => ?_)
  · dsimp only
    exact wpAny_pure (hQ false s.heap L es ep t (Heap.SameBut.refl a s.heap) R (fun _ => rfl) fun z => absurd hm z)
  · dsimp only
    refine wpAny_bind (wpAny_setState_of ho hd R.fits ?_)
    dsimp only
    obtain ⟨q1, q2, q3, q4, q5, q6, q7, q8, q9⟩ := R.tab.put hN hb
    generalize hpt : t.put (way t.mask (κ.hash k) N) = pt at q1 q3 q4 q5 q6 q7 q8 q9 ⊢
    obtain ⟨t1, p⟩ := pt
    dsimp only at q1 q3 q4 q5 q6 q7 q8 q9 ⊢
    subst q1
    have hin : (SetTable.insertAt es (SetTable.below t.place (way t.mask (κ.hash k) N)) (κ.hash k, Value.ref x)).toList = krows κ (L.take (SetTable.below t.place (way t.mask (κ.hash k) N)) ++ (x, k) :: L.drop (SetTable.below t.place (way t.mask (κ.hash k) N))) := by
      rw [SetTable.toList_insertAt, krows_put, R.rows]
    generalize hpp : SetTable.below t.place (way t.mask (κ.hash k) N) = p at q2 q3 hin ⊢
    have pm := put_perm L p (x, k)
    have hlen : (L.take p ++ (x, k) :: L.drop p).length = L.length + 1 := pm.length_eq
    have hhs : (L.take p ++ (x, k) :: L.drop p).map (fun p => κ.hash p.2) = (L.map fun p => κ.hash p.2).take p ++ κ.hash k :: (L.map fun p => κ.hash p.2).drop p := by
      rw [List.map_append, List.map_cons, List.map_take, List.map_drop]
    rw [← hhs] at q3
    have nd1 : ((L.take p ++ (x, k) :: L.drop p).map (·.2)).Nodup := by
      refine (pm.map (·.2)).nodup_iff.mpr ?_
      rw [List.map_cons]
      exact List.nodup_cons.mpr ⟨hm, R.nd⟩
    have hes : (SetTable.insertAt es p (κ.hash k, Value.ref x)).size = L.length + 1 := by rw [rows_size hin, hlen]
    generalize SetTable.insertAt es p (κ.hash k, Value.ref x) = es1 at hin hes ⊢
    generalize L.take p ++ (x, k) :: L.drop p = L1 at pm hlen q3 nd1 hin
    -- whatever the mark of plainness is then
    have all : ∀ t2 : SetTable, t2.mask = t1.mask → t2.led = t1.led → t2.fill = t1.fill → t2.place = t1.place → TabOk t2 (L1.map fun p => κ.hash p.2) →
        wpAny (model P w) A (do
          storeSet a es1 t2
          if !false && t2.tooFull then setRelay a (SetTable.grown (es.size + 1))
          return true) Q E s := fun t2 m2 l2 f2 pl2 T2 => by
      refine wpAny_bind (wpAny_storeSet_of ho hd ?_ (by rw [hes, sizeLine_eq]; omega))
      have sb : Heap.SameBut a s.heap (s.heap.update a (Obj.putSet es1 t2)) := Heap.SameBut.update ..
      have ho1 := store_at (es' := es1) (t' := t2) ho hd
      generalize s.heap.update a (Obj.putSet es1 t2) = h1 at sb ho1 ⊢
      have mem1 : ∀ p ∈ L1, κ.is h1 p.2 p.1 := fun p hp => by
        rcases List.mem_cons.mp (pm.mem_iff.mp hp) with e | hp
        · rw [e]; exact is_same hx ho hd sb
        · exact is_same (R.mem p hp) ho hd sb
      have ld1 : w.params.followText "set-order" = true ∨ t2.led = true := by rw [l2, q5]; exact R.led
      by_cases hf : t2.tooFull = true
      · first
          | (refine wpAny_bind ?_; refine wp_if_pos (by simp [hf]) ?_)
          | (refine wp_if_pos (by simp [hf]) ?_; refine wpAny_bind ?_)
        have hfull : (L.length + 1) * 5 ≥ t1.mask * 3 := by
          have h := hf
          unfold SetTable.tooFull at h
          rw [decide_eq_true_eq, f2, q9, List.length_map, m2] at h
          exact h
        rw [hsl]
        have cases2 : (t.mask = 7 ∧ L.length = 4) ∨ (t.mask = 31 ∧ L.length = 18) := by
          rcases R.tab.mok with e | e | e
          · left; rw [q4, e] at hfull; rw [e] at hroom; exact ⟨e, by omega⟩
          · right; rw [q4, e] at hfull; rw [e] at hroom; exact ⟨e, by omega⟩
          · exfalso; rw [q4, e] at hfull; omega
        have hsz1 : t2.place.size = es1.size := by
          have h := T2.sz
          rw [List.length_map, hlen] at h
          rw [h, hes]
        have go : ∀ M, SetTable.sizeAbove (SetTable.grown (L.length + 1)) - 1 = M → MaskOk M → SetTable.sizeAbove (SetTable.grown (L.length + 1)) ≤ 128 → (L.length + 1) * 5 < M * 3 →
            wpAny (model P w) A (setRelay a (SetTable.grown (L.length + 1))) (fun _ s' => wpAny (model P w) A (pure true) Q E s') E { s with heap := h1 } := fun M g1 g2 g3 g4 => by
          refine relaid_at (κ := κ) (s := { s with heap := h1 }) ho1 ⟨hex.1, hex.2.1, hex.2.2⟩ rfl hin hsz1 T2.dm (by rw [hes, m2, q4]; rcases cases2 with ⟨e, e2⟩ | ⟨e, e2⟩ <;> omega) nd1 mem1 ld1 (by rw [hlen]; exact hfew) g1 g2 g3 (by rw [hlen]; exact g4) ?_
          intro h2 L2 es2 ep2 t2 sb2 R2 pm2
          exact wpAny_pure (hQ true h2 L2 es2 ep2 t2 (sb.trans sb2) R2 (fun z => absurd z hm) fun _ => pm2.trans pm)
        rcases cases2 with ⟨_, e2⟩ | ⟨_, e2⟩
        · exact go 31 (by rw [e2, size_20]) (.inr (.inl rfl)) (by rw [e2, size_20]; decide) (by omega)
        · exact go 127 (by rw [e2, size_76]) (.inr (.inr rfl)) (by rw [e2, size_76]; decide) (by omega)
      · first
          | refine wp_if_neg (by simp [hf]) ?_
          | (refine wpAny_bind ?_; refine wp_if_neg (by simp [hf]) ?_; refine wpAny_pure ?_)
        refine wpAny_pure (hQ true h1 L1 es1 (ep + 1) t2 sb ⟨⟨_, ho1, ⟨hex.1, hex.2.1, hex.2.2⟩, rfl⟩, hin, T2, nd1, mem1, ld1, ?_, by rw [hlen]; exact hfew⟩ (fun z => absurd z hm) fun _ => pm)
        have h := hf
        unfold SetTable.tooFull at h
        rw [decide_eq_true_eq, f2, q9, List.length_map] at h
        rw [hlen]
        omega
    by_cases hp1 : t1.plain = true
    · first
        | (refine wpAny_bind ?_; refine wp_if_pos hp1 ?_; refine κ.byVal hx fun b => ?_)
        | refine wp_if_pos hp1 (wpAny_bind (κ.byVal hx fun b => ?_))
      cases b
      · simp only [Bool.false_eq_true, if_false]
        exact all { t1 with plain := false } rfl rfl rfl rfl (TabOk_plain q3 false)
      · simp only [if_true]
        exact all t1 rfl rfl rfl rfl q3
    · first
        | (refine wpAny_bind ?_; refine wp_if_neg hp1 ?_; refine wpAny_pure ?_)
        | refine wp_if_neg hp1 (wpAny_bind (wpAny_pure ?_))
      simp only [if_true]
      exact all t1 rfl rfl rfl rfl q3
end
end KS

namespace KS
open PySem PySem.Spec PyProof.Rows L2
/-- what the set has got from the first i items -/
structure Taken {K : Type} (ks : List (Addr × K)) (i : Nat) (L : List (Addr × K)) : Prop where
  sub : ∀ p ∈ L, p ∈ ks.take i
  all : ∀ p ∈ ks.take i, p.2 ∈ L.map (·.2)
  len : L.length ≤ i
theorem take_one {α : Type} {l : List α} {i : Nat} {x : α} (h : l[i]? = some x) : l.take (i + 1) = l.take i ++ [x] := by
  rw [List.take_succ, h]
  rfl
theorem Taken.zero {K : Type} (ks : List (Addr × K)) : Taken ks 0 [] := ⟨(fun p h => nomatch h), (fun p h => by simp at h), Nat.le_refl _⟩
theorem Taken.same {K : Type} {ks L : List (Addr × K)} {i : Nat} {x : Addr × K} (g : Taken ks i L) (h : ks[i]? = some x) (hm : x.2 ∈ L.map (·.2)) : Taken ks (i + 1) L := by
  refine ⟨fun p hp => ?_, fun p hp => ?_, Nat.le_succ_of_le g.len⟩
  · rw [take_one h]; exact List.mem_append_left _ (g.sub p hp)
  · rw [take_one h] at hp
    rcases List.mem_append.mp hp with z | z
    · exact g.all p z
    · rw [List.mem_singleton.mp z]; exact hm
theorem Taken.more {K : Type} {ks L L' : List (Addr × K)} {i : Nat} {x : Addr × K} (g : Taken ks i L) (h : ks[i]? = some x) (pm : L'.Perm (x :: L)) : Taken ks (i + 1) L' := by
  refine ⟨fun p hp => ?_, fun p hp => ?_, ?_⟩
  · rw [take_one h]
    rcases List.mem_cons.mp (pm.mem_iff.mp hp) with e | z
    · rw [e]; exact List.mem_append_right _ (List.mem_singleton.mpr rfl)
    · exact List.mem_append_left _ (g.sub p z)
  · rw [(pm.map (·.2)).mem_iff, List.map_cons]
    rw [take_one h] at hp
    rcases List.mem_append.mp hp with z | z
    · exact List.mem_cons_of_mem _ (g.all p z)
    · rw [List.mem_singleton.mp z]; exact List.mem_cons_self
  · rw [pm.length_eq, List.length_cons]; exact Nat.succ_le_succ g.len

section
variable {P : Program} {w : World} {A : Around} {E : Value → Shared → Prop} {s : Shared} {K : Type} [DecidableEq K] {κ : SKind P w K}
theorem KSetAt.keep {h h' : Heap} {a : Addr} {L : List (Addr × K)} {es : Array (Int × Value)} {ep : Nat} {t : SetTable} (R : KSetAt κ h a L es ep t) (ha : ∀ o, h.get? a = some o → h'.get? a = some o) (ht : ∀ p ∈ L, κ.is h' p.2 p.1) : KSetAt κ h' a L es ep t := by
  obtain ⟨o, ho, r⟩ := R.obj
  exact ⟨⟨o, ha o ho, r⟩, R.rows, R.tab, R.nd, ht, R.led, R.room, R.few⟩
/-- the empty set's object -/
abbrev newSetO (w : World) : Obj := { cls := .type "set", dict := none, data := .set #[] 0 (.fresh 0 0 (!w.params.followText "set-order")) }
theorem kset_new {h : Heap} {a : Addr} (ho : h.get? a = some (newSetO w)) : KSetAt κ h a [] #[] 0 (.fresh 0 0 (!w.params.followText "set-order")) where
  obj := ⟨_, ho, ⟨rfl, rfl, rfl⟩, rfl⟩
  rows := rfl
  tab := ⟨List.Pairwise.nil, rfl, rfl, .inl rfl, (fun x hx => nomatch hx), (fun i h j hi => by simp at hi)⟩
  nd := List.nodup_nil
  mem := fun p hp => nomatch hp
  led := by
    show _ ∨ (!w.params.followText "set-order") = true
    cases w.params.followText "set-order"
    · exact .inr rfl
    · exact .inl rfl
  room := by show 0 * 5 < 7 * 3; decide
  few := Nat.zero_le _

/-- set.update's loop -/
theorem fill_loop {I : Addr} {fp wr : List Addr} {G : Array GenState → Array GenState → Prop} {n : Nat} {Pv : Nat → Value → Prop} {St : Nat → Shared → Prop} {R : Result → Shared → Prop}
    (W : WalksS P w A.in1 I fp wr G n Pv St) (S : Addr) (hSf : S ∉ fp) (ks : List (Addr × K)) (hn : n = ks.length) (hfew : ks.length ≤ 76) (hval : ∀ i v, Pv i v → ∃ p, ks[i]? = some p ∧ v = .ref p.1)
    (h0 : Heap) (hk : ∀ p ∈ ks, κ.is h0 p.2 p.1) (hS0 : h0.get? S = none) (hw0 : ∀ b ∈ wr, h0.get? b = none) (hu : A.in1.units < cLine) :
    ∀ (k i : Nat) (s : Shared), n - i = k → i ≤ n → St i s → (∀ b o, h0.get? b = some o → s.heap.get? b = some o) → (∃ L es ep t, KSetAt κ s.heap S L es ep t ∧ Taken ks i L) →
      (∀ s' L es ep t, Moved (S :: wr) G s s' → KSetAt κ s'.heap S L es ep t → Taken ks n L → (∀ b o, h0.get? b = some o → s'.heap.get? b = some o) → R (.ok (.ret .none)) s') →
      codeAny (model P w) A (.builtin "set.update.loop" ⟨[.ref S, .ref I], []⟩) R s := by
  have hSw : S ∉ wr := fun h => hSf (W.sub _ h)
  have up : ∀ b ∈ wr, b ∈ S :: wr := fun b hb => List.mem_cons_of_mem _ hb
  have kept : ∀ {s s' : Shared}, Moved wr G s s' → (∀ b o, h0.get? b = some o → s.heap.get? b = some o) → ∀ b o, h0.get? b = some o → s'.heap.get? b = some o := fun hm hkp b o e =>
    hm.heap b o (fun hb => by rw [hw0 b hb] at e; cases e) (hkp b o e)
  intro k
  induction k with
  | zero =>
    intro i s hk' hi hst hkp ⟨L, es, ep, t, hS, g⟩ hR
    obtain rfl : i = n := by omega
    refine codeAny_builtin F.entry_set_update_loop ?_
    rw [Around.under_plainId F.plain_set_update_loop _]
    show wpAny _ A.in1 (pyNext (.ref I) >>= _) _ _ s
    refine wpAny_bind (W.done s _ _ hst fun s' hm => ?_)
    show wpAny _ A.in1 (ret Value.none) _ _ s'
    have hkp' := kept hm hkp
    exact wpAny_pure (hR s' L es ep t (hm.mono up) (hS.keep (fun o e => hm.heap S o hSw e) fun p hp => is_mono (hk p (List.mem_of_mem_take (g.sub p hp))) hkp') g hkp')
  | succ k ih =>
    intro i s hk' hi hst hkp ⟨L, es, ep, t, hS, g⟩ hR
    have hlt : i < n := by omega
    refine codeAny_builtin F.entry_set_update_loop ?_
    rw [Around.under_plainId F.plain_set_update_loop _]
    show wpAny _ A.in1 (pyNext (.ref I) >>= _) _ _ s
    refine wpAny_bind (W.item i s _ _ hlt hst fun v s' hP hst' hm => ?_)
    obtain ⟨p, hp, rfl⟩ := hval i v hP
    have hkp' := kept hm hkp
    have hS' : KSetAt κ s'.heap S L es ep t := hS.keep (fun o e => hm.heap S o hSw e) fun q hq => is_mono (hk q (List.mem_of_mem_take (g.sub q hq))) hkp'
    have hx : κ.is s'.heap p.2 p.1 := is_mono (hk p (List.mem_of_getElem? hp)) hkp'
    show wpAny _ A.in1 (holding [Value.ref p.1] (setAdd S (.ref p.1)) >>= _) _ _ s'
    refine wpAny_bind (wpAny_holding ?_)
    unfold setAdd
    refine wpAny_holding (wpAny_bind (κ.hashed hu hx ?_))
    refine added (s := { s' with toks := s'.toks + κ.draws p.2 }) hS' hx hu (by have := g.len; omega) fun b h' L' es' ep' t' hsb hS2 c1 c2 => ?_
    have g' : Taken ks (i + 1) L' := by
      by_cases c : p.2 ∈ L.map (·.2)
      · rw [c1 c]; exact g.same hp c
      · exact g.more hp (c2 c)
    have hkp2 : ∀ b o, h0.get? b = some o → h'.get? b = some o := fun b o e => (hsb.2 b (fun z => by rw [z, hS0] at e; cases e)).trans (hkp' b o e)
    refine wpAny_pure ⟨plainId_quiet F.plain_set_update_loop _, ih (i + 1) _ (by omega) hlt (W.frame _ s' _ _ hst' (Nat.le_add_right _ _) fun b hb o e => ?_) hkp2 ⟨L', es', ep', t', hS2, g'⟩ fun s'' L2 es2 ep2 t2 hm'' hS'' g'' hkp'' => ?_⟩
    · rw [hsb.2 b (fun h : b = S => hSf (by rw [← h]; exact hb))]; exact e
    · refine hR s'' L2 es2 ep2 t2 (Moved.trans W.gtrans ((hm.mono up).then_heap (Nat.le_add_right _ _) fun b o hb e => ?_) hm'') hS'' g'' hkp''
      rw [hsb.2 b (fun h : b = S => hb (by rw [h]; exact List.mem_cons_self))]; exact e

/-- set(xs), xs a list: the loop that fills it is told -/
theorem set_call {l : Addr} {items : Array Value} {Res : Heap → Prop} {Q : Value → Shared → Prop} (hh : A.handled = none) (hl : s.heap.IsList l items)
    (loop : ∀ (A' : Around) (n' : Nat) (R : Result → Shared → Prop), A'.handled = none → A'.units = A.units + 2 → n' = (s.heap.push (newSetO w)).objs.size →
      (∀ h' tk, Res h' → (∀ b o, s.heap.get? b = some o → h'.get? b = some o) → R (.ok (.ret .none)) { s with heap := h', toks := tk }) →
      codeAny (model P w) A' (.builtin "set.update.loop" ⟨[.ref s.heap.objs.size, .ref n'], []⟩) R { s with heap := (s.heap.push (newSetO w)).push { cls := .type "list_iterator", data := .fields #[.ref l, .int 0 0] } })
    (h : ∀ (h' : Heap) (tk : Nat), Res h' → (∀ b o, s.heap.get? b = some o → h'.get? b = some o) → Q (.ref s.heap.objs.size) { s with heap := h', toks := tk }) :
    wpAny (model P w) A (call (.type "set") [.ref l]) Q E s := by
  obtain ⟨c, tl, hmro⟩ := F.called_set.mro
  have hmade := F.called_set.made
  have hsub := F.called_set.sub
  refine wpAny_call (codeAny_of_tree ?_)
  show wpAny _ _ (callAny (.type "set") _) _ _ _
  refine wpAny_pure ⟨Code.quiet_builtin _ (by decide +kernel), codeAny_builtin F.entry_type_call ?_⟩
  rw [Around.under_plain (weight_type_call_type "set" [.ref l] []) rfl]
  have h1 := F.called_set.notType
  have h2 := F.called_set.canCreate
  have hct := F.typeCall_set_1 (.ref l)
  repeat (any_goals (first | assumption | wp_step))
  refine codeAny_mono (code_set_led1 (.ref l) (E := E) (Q₁ := fun obj s₁ => obj = .ref s.heap.objs.size ∧ s₁ = { s with heap := s.heap.push (newSetO w) }) ⟨rfl, rfl⟩) fun r s₁ hr => ?_
  cases r with
  | error e => exact hr
  | ok fl =>
    cases fl with
    | ret obj =>
      obtain ⟨rfl, rfl⟩ := hr
      have hS : (s.heap.push (newSetO w)).get? s.heap.objs.size = some (newSetO w) := Heap.get?_push_size _ rfl
      have hT : Shared.TypeIs { s with heap := s.heap.push (newSetO w) } (.ref s.heap.objs.size) "set" := ⟨_, hS, rfl⟩
      have hli := F.called_set.init.lookup
      have hbi := F.called_set.init.bind (.ref s.heap.objs.size)
      repeat (any_goals (first | assumption | wp_step))
      refine codeAny_mono (codeAny_call_builtin (R := wants (fun r s₂ => r = .none ∧ ∃ h' tk, s₂ = { s with heap := h', toks := tk } ∧ Res h' ∧
          (∀ b o, s.heap.get? b = some o → h'.get? b = some o)) E) F.called_set.init.plain F.entry_set_init (check_set_init_1 hT ?_)) fun r₂ s₂ hr₂ => ?_
      · obtain ⟨ol, hol, hcl, nl, hdl⟩ := hl
        obtain ⟨ocls, odict, odata, oslots⟩ := ol
        simp only at hcl hdl
        subst hcl; subst hdl
        have hol' : (s.heap.push (newSetO w)).get? l = some { cls := .type "list", dict := odict, data := .seq items nl, slots := oslots } := Heap.get?_push_of_some _ hol
        have hsls := F.sub_list_set
        have hslf := F.sub_list_frozenset
        have hne : (Value.type "list" == Value.type "dict") = false := by decide
        have hl1 : (s.heap.push (newSetO w)).IsList l items := ⟨_, hol', rfl, nl, rfl⟩
        unfold Builtin.«set.__init__» noKeywords Builtin.Frozenset.updateFrom
        generalize hPI : pyIter = PI
        wp_walk
        subst hPI
        refine wpAny_pyIter_list hl1 ?_
        refine wpAny_bind (wpAny_runValue ?_)
        refine loop _ _ _ (by simp [hh]) rfl rfl fun h' tk hR hk => ?_
        show wpAny _ _ _ _ _ _
        refine wpAny_pure ?_
        show wpAny _ _ (ret Value.none) _ _ _
        exact wpAny_pure ⟨rfl, h', tk, rfl, hR, hk⟩
      · cases r₂ with
        | error e => exact hr₂
        | ok fl₂ =>
          cases fl₂ with
          | ret r =>
            obtain ⟨rfl, h', tk, rfl, hR, hk⟩ := hr₂
            repeat (any_goals (first | assumption | wp_step))
            exact h _ _ hR hk
          | _ => exact hr₂.elim
    | _ => exact hr.elim
theorem none_of {h : Heap} {b : Addr} (hb : h.objs.size ≤ b) : h.get? b = none := by
  cases q : h.get? b with
  | none => rfl
  | some o => exact absurd (Nat.lt_of_lt_of_le (Heap.lt_size q) hb) (Nat.lt_irrefl _)
/-- set(xs), xs a list of keys -/
theorem set_of_list {l : Addr} {items : Array Value} (ks : List (Addr × K)) {Q : Value → Shared → Prop} (hh : A.handled = none) (hl : s.heap.IsList l items) (hit : items.toList = ks.map fun p => Value.ref p.1)
    (hk : ∀ p ∈ ks, κ.is s.heap p.2 p.1) (hfew : ks.length ≤ 76) (hu : A.units + 4 < cLine)
    (h : ∀ (h' : Heap) (tk : Nat) L es ep t, KSetAt κ h' s.heap.objs.size L es ep t → Taken ks ks.length L → (∀ b o, s.heap.get? b = some o → h'.get? b = some o) → Q (.ref s.heap.objs.size) { s with heap := h', toks := tk }) :
    wpAny (model P w) A (call (.type "set") [.ref l]) Q E s := by
  have hisz : items.size = ks.length := by
    have q := congrArg List.length hit
    rw [Array.length_toList, List.length_map] at q
    exact q
  have hol : ∃ o, s.heap.get? l = some o := hl.elim fun o ho => ⟨o, ho.1⟩
  have hlS : l < s.heap.objs.size := hol.elim fun o ho => Heap.lt_size ho
  refine set_call (Res := fun h' => ∃ L es ep t, KSetAt κ h' s.heap.objs.size L es ep t ∧ Taken ks ks.length L) hh hl (fun A' n' R hA uA en hR => ?_) (fun h' tk ⟨L, es, ep, t, a1, a2⟩ hk' => h h' tk L es ep t a1 a2 hk')
  subst en
  have hl1 : (s.heap.push (newSetO w)).IsList l items := hl.elim fun o ho => ⟨o, Heap.get?_push_of_some _ ho.1, ho.2⟩
  have hS : (s.heap.push (newSetO w)).get? s.heap.objs.size = some (newSetO w) := Heap.get?_push_size _ rfl
  have hneI : l ≠ (s.heap.push (newSetO w)).objs.size := by
    rw [Heap.size_push]; exact Nat.ne_of_lt (Nat.lt_succ_of_lt hlS)
  have hSf : s.heap.objs.size ∉ [(s.heap.push (newSetO w)).objs.size, l] := by
    rw [Heap.size_push]; simp only [List.mem_cons, List.mem_singleton, List.not_mem_nil, or_false, not_or]
    exact ⟨Nat.ne_of_lt (Nat.lt_succ_self _), Nat.ne_of_gt hlS⟩
  have hval : ∀ (i : Nat) (v : Value), items[i]? = some v → ∃ p, ks[i]? = some p ∧ v = .ref p.1 := fun i v hv => by
    have q : items.toList[i]? = some v := by rw [Array.getElem?_toList]; exact hv
    rw [hit, List.getElem?_map] at q
    cases hq : ks[i]? with
    | none => rw [hq] at q; cases q
    | some p => rw [hq] at q; exact ⟨p, rfl, (Option.some.inj q).symm⟩
  refine fill_loop (κ := κ) ((Walks.list (A := A'.in1) (by simpa using hA) _ l hneI items).toS) s.heap.objs.size
    hSf ks hisz hfew hval s.heap hk (none_of (Nat.le_refl _)) (fun b hb => none_of (by
      rw [List.mem_singleton.mp hb, Heap.size_push]
      exact Nat.le_succ _)) (by show A'.units + 1 < cLine; omega) (items.size - 0) 0 _ (by omega) (Nat.zero_le _)
    ⟨⟨_, Heap.get?_push_size _ rfl, rfl, rfl⟩, (hl1.push _)⟩ (fun b o e => Heap.get?_push_of_some _ (Heap.get?_push_of_some _ e))
    ⟨[], #[], 0, _, kset_new (Heap.get?_push_of_some _ hS), Taken.zero ks⟩ fun s' L es ep t hm hS' g' hkp => ?_
  obtain ⟨h', g2, d', tk', os'⟩ := s'
  obtain rfl : g2 = s.gens := hm.gens
  obtain rfl : d' = s.drawn := hm.drawn
  obtain rfl : os' = s.os := hm.os
  rw [hisz] at g'
  exact hR h' tk' ⟨L, es, ep, t, hS', g'⟩ hkp
/-- set(xs), xs a list of ints -/
theorem set_of_ints {l : Addr} {items : Array Value} (ns : List Int) {Q : Value → Shared → Prop} (hh : A.handled = none) (hl : s.heap.IsList l items) (hit : IntsAre items.toList ns) (hb : ns.length + 1 < scanBound)
    (h : ∀ (h' : Heap) (tk c : Nat), SetR w h' s.heap.objs.size (fun j => decide (j ∈ ns)) c → c ≤ ns.length → (∀ b o, s.heap.get? b = some o → h'.get? b = some o) → Q (.ref s.heap.objs.size) { s with heap := h', toks := tk }) :
    wpAny (model P w) A (call (.type "set") [.ref l]) Q E s := by
  have hisz : items.size = ns.length := by
    have q := IntsAre.length hit
    rw [Array.length_toList] at q
    exact q
  have hol : ∃ o, s.heap.get? l = some o := hl.elim fun o ho => ⟨o, ho.1⟩
  have hlS : l < s.heap.objs.size := hol.elim fun o ho => Heap.lt_size ho
  refine set_call (Res := fun h' => ∃ c, c ≤ ns.length ∧ SetR w h' s.heap.objs.size (fun j => decide (j ∈ ns)) c) hh hl (fun A' n' R hA uA en hR => ?_) (fun h' tk ⟨c, a1, a2⟩ hk' => h h' tk c a2 a1 hk')
  subst en
  have hl1 : (s.heap.push (newSetO w)).IsList l items := hl.elim fun o ho => ⟨o, Heap.get?_push_of_some _ ho.1, ho.2⟩
  have hS : (s.heap.push (newSetO w)).get? s.heap.objs.size = some (newSetO w) := Heap.get?_push_size _ rfl
  have hneI : l ≠ (s.heap.push (newSetO w)).objs.size := by
    rw [Heap.size_push]; exact Nat.ne_of_lt (Nat.lt_succ_of_lt hlS)
  have hSf : s.heap.objs.size ∉ [(s.heap.push (newSetO w)).objs.size, l] := by
    rw [Heap.size_push]; simp only [List.mem_cons, List.mem_singleton, List.not_mem_nil, or_false, not_or]
    exact ⟨Nat.ne_of_lt (Nat.lt_succ_self _), Nat.ne_of_gt hlS⟩
  have hval : ∀ (i : Nat) (v : Value), items[i]? = some v → ∃ k t, ns[i]? = some k ∧ v = .int k t := fun i v hv => by
    have hi : i < ns.length := by rw [← hisz]; exact (Array.getElem?_eq_some_iff.mp hv).1
    obtain ⟨t, e⟩ := PyProof.Rows.IntsAre.int_at hit i v (by rw [Array.getElem?_toList]; exact hv)
    refine ⟨ns[i], t, List.getElem?_eq_getElem hi, ?_⟩
    rw [e, List.getD_eq_getElem?_getD, List.getElem?_eq_getElem hi]
    rfl
  refine set_update_ints ((Walks.list (A := A'.in1) (by simpa using hA) _ l hneI items).toS) s.heap.objs.size
    hSf ns hisz hb hval (items.size - 0) 0 _ (by omega) (Nat.zero_le _)
    ⟨⟨_, Heap.get?_push_size _ rfl, rfl, rfl⟩, (hl1.push _)⟩ ⟨0, Nat.le_refl 0, setR_new_at (Heap.get?_push_of_some _ hS)⟩ fun s' c hm hc hS' => ?_
  obtain ⟨h', g2, d', tk', os'⟩ := s'
  obtain rfl : g2 = s.gens := hm.gens
  obtain rfl : d' = s.drawn := hm.drawn
  obtain rfl : os' = s.os := hm.os
  rw [hisz] at hc
  refine hR h' tk' ⟨c, hc, hS'⟩ fun b o e => hm.heap b o ?_ (Heap.get?_push_of_some _ (Heap.get?_push_of_some _ e))
  have hb0 : b < s.heap.objs.size := Heap.lt_size e
  rw [Heap.size_push]
  simp only [List.mem_cons, List.mem_singleton, List.not_mem_nil, or_false, not_or]
  exact ⟨Nat.ne_of_lt hb0, Nat.ne_of_lt (Nat.lt_succ_of_lt hb0)⟩
end
end KS

/-! Defs that may ask for repr: as the layer's defs, but nothing is being shown around them (no guard stands on the stack). -/
namespace GL
open PySem PySem.Spec PyProof.Rows L2
structure RoomG (k : Nat) (A : Around) : Prop where
  room : Room k A
  gd : A.guards = some []
theorem RoomG.mono {j k : Nat} {A : Around} (r : RoomG k A) (h : j ≤ k) : RoomG j A := ⟨r.room.mono h, r.gd⟩
theorem RoomG.deeper {k : Nat} {A : Around} (r : RoomG (k + 1) A) (env : Env) : RoomG k (A.deeper env) := ⟨r.room.deeper env, r.gd⟩
structure FnG (P : Program) (w : World) (K : PySem.W.Frag) (mg : Str → Option Value) (base : Heap) (CX : CXT) (k : Nat) (f : Addr) (fd : FuncData) (ps : List Str) (sp : Sp) : Prop where
  len : ∀ vs H Q E, sp vs H Q E → vs.length = ps.length
  run : ∀ (A : Around) (outer : List Env) (s : Shared) (H : Hp) (args : Args) (us : List Value) (vs : List V) (Q : VK) (E : XK), RoomG k A → Env0 P w K mg base A outer s H → BindsTo s fd args (ps.zip us) → Vals vs us → sp vs H Q E →
    codeAny (model P w) A (.call (.ref f) args) (CR CX outer P w H s Q E) s
section
variable {P : Program} {w : World} {K : PySem.W.Frag} {mg : Str → Option Value} {base : Heap} {CX : CXT} {k : Nat} {f : Addr} {fd : FuncData} {ps : List Str} {sp : Sp}
theorem FnG.mono {j : Nat} (F : FnG P w K mg base CX j f fd ps sp) (h : j ≤ k) : FnG P w K mg base CX k f fd ps sp := ⟨F.len, fun A outer s H args us vs Q E hr => F.run A outer s H args us vs Q E (hr.mono h)⟩
theorem FnG.of (F : FnOk P w K mg base CX k f fd ps sp) : FnG P w K mg base CX k f fd ps sp := ⟨F.len, fun A outer s H args us vs Q E hr => F.run A outer s H args us vs Q E hr.room⟩
theorem fn_ofG {name qual : Str} {params : Arguments} {body : List Stmt} {scope : Scope} {dV kV doc pm cdv ct oc : Value} {an od : Option Addr}
    {osl : Array (Option Value)} {N : List Str} (lk : K.lookup f = some ⟨oc, od, .func (PySem.W.fnOf name qual params body scope dV kV doc pm an cdv ct), osl⟩) (hcd : PySem.W.codeIn K cdv qual = true) (S : FnScope N ps scope)
    (len : ∀ vs H Q E, sp vs H Q E → vs.length = ps.length)
    (hbody : ∀ (A : Around) (outer : List Env) (s : Shared) (H : Hp) (vs : List V) (Q : VK) (E : XK), RoomG k (A.deeper (envOfC qual scope s.heap.objs.size f cdv)) → sp vs H Q E →
      ∃ t, PSs (cxOf CX P w K mg base N qual scope f cdv A outer s H E) body t ∧ t { nx := fun _ H' => Q .non H', rt := Q } (start N vs) H) :
    FnG P w K mg base CX (k + 1) f (PySem.W.fnOf name qual params body scope dV kV doc pm an cdv ct) ps sp := by
  refine ⟨len, fun A outer s H args us vs Q E hr e0 hb r hsp => ?_⟩
  have hl := len _ _ _ _ hsp
  have KX : K.In s.heap := e0.mod.kin.keeps fun b o e => (e0.bs b o e).1
  have lim : s.heap.NoLimit := e0.mod.nolimit.keeps fun b o e => (e0.bs b o e).1
  have hkind : ∀ y ∈ ps.zip us, scope.names.lookup y.1 = some .local ∨ (scope.names.lookup y.1 = some .cell ∧ ((cellsFrom (s.heap.objs.size + 1) scope.names []).lookup y.1).isSome = true) := by
    rintro ⟨n, v⟩ hy
    exact (S.par n (List.of_mem_zip hy).1).elim .inl fun q => .inr ⟨q, PySem.W.cellsFrom_some _ _ _ (.inl q)⟩
  refine codeAny_call_function hr.room.depth (KX _ _ lk) rfl S.co S.gen rfl (PySem.W.codeRec_of KX hcd) (hb _ _ _ _ ?_)
  refine wpAny_newFunctionEnv_cells S.kind hkind fun env he s1 x => ?_
  subst he
  refine ⟨lim.keeps x.toInCall.keep, codeAny_func ?_⟩
  obtain ⟨t, ht, hq⟩ := hbody A outer s H vs Q E (hr.deeper _) hsp
  have I : Inv (cxOf CX P w K mg base N qual scope f cdv A outer s H E) [] (start N vs) H s1 := inv_start S hr.room.hd e0 hl r x
  refine wpAny_mono (ht.run [] s1 (start N vs) H _ I hq) (fun fl s' hs => ?_) fun e s' hs => hs
  cases fl with
  | ret u =>
    obtain ⟨v, σ', H', J, rv, q⟩ := hs
    exact ⟨v, H', J.os, J.bare, J.base, J.hok, rv, q⟩
  | next =>
    obtain ⟨σ', H', J, q⟩ := hs
    exact ⟨V.non, H', J.os, J.bare, J.base, J.hok, rfl, q⟩
  | brk => exact hs.elim fun _ z => z.elim fun _ z => z.2.elim
  | cont => exact hs.elim fun _ z => z.elim fun _ z => z.2.elim
/-- as Fun.ok -/
theorem okG {x qual : Str} {st : Stmt} {N : List Str} (F : Fun K x qual st f fd) (S : FnScope N ps (defScope st)) (len : ∀ vs H Q E, sp vs H Q E → vs.length = ps.length)
    (hbody : ∀ (cdv : Value) (A : Around) (outer : List Env) (s : Shared) (H : Hp) (vs : List V) (Q : VK) (E : XK), RoomG k (A.deeper (envOfC qual (defScope st) s.heap.objs.size f cdv)) → sp vs H Q E →
      ∃ t, PSs (cxOf CX0 P w K mg base N qual (defScope st) f cdv A outer s H E).nox (defBody st) t ∧ t { nx := fun _ H' => Q .non H', rt := Q } (start N vs) H) : FnG P w K mg base CX0 (k + 1) f fd ps sp := by
  obtain ⟨oc, od, kV, doc, pm, an, cdv, ct, osl, rfl, lk, hcd⟩ := F.ex
  refine fn_ofG lk hcd S len fun A outer s H vs Q E hr hsp => ?_
  obtain ⟨t, h, q⟩ := hbody cdv A outer s H vs Q E hr hsp
  exact ⟨t, h.nox, q⟩
end
section
variable {X : Cx} {CX : CXT} {k : Nat} {f : Addr} {fd : FuncData} {ps ks : List Str} {sp : Sp} {dvs : List V} {ds : List Value} {E : XK} {x : Str} {p pos : Pos} {e : Expr} {es : List Expr} {t tk : TA} {kws : List Keyword} {g : List Value → List Value → List Value} {gV : List V → List V → List V}
theorem end_fn {pins : List (Addr × Obj)} {σ : L2.St} {H : Hp} {s s' : Shared} {Q : VK} {r : Result} (hx : Passes CX X E) (I : Inv X pins σ H s) (hq : CR CX X.stack X.prog X.w H s Q E r s') :
    match r with | .ok (.ret u) => EP X pins σ Q u s' | .ok _ => False | .error er => X.xe er s' := by
  cases r with
  | error er => exact hx pins σ H s er s' I hq
  | ok fl =>
    cases fl with
    | ret u => exact I.after hq
    | next => exact hq
    | brk => exact hq
    | cont => exact hq
theorem run_fnG {pins : List (Addr × Obj)} {σ : L2.St} {H : Hp} {s : Shared} {Q : VK} {us : List Value} {vs : List V} (F : FnG X.prog X.w X.K X.mg X.base CX k f fd ps sp) (hr : RoomG k X.A) (hb : Binds X.K fd ps ds) (hd : Vals dvs ds) (hx : Passes CX X E)
    (I : Inv X pins σ H s) (r : Vals vs us) (h : sp (vs ++ dvs) H Q E) : wpAny (model X.prog X.w) X.A (call (.ref f) us) (EP X pins σ Q) X.xe s := by
  have r2 : Vals (vs ++ dvs) (us ++ ds) := r.append hd
  have hl : (us ++ ds).length = ps.length := by rw [← r2.length]; exact F.len _ _ _ _ h
  refine wpAny_call (codeAny_mono (F.run X.A X.stack s H ⟨us, []⟩ (us ++ ds) (vs ++ dvs) Q E hr I.env0 (hb s us I.kIn hl) r2 h) fun r s' hq => ?_)
  have z := end_fn hx I hq
  cases r with
  | error er => exact z
  | ok fl => cases fl <;> exact z
/-- f(e, ..) -/
theorem pe_callG (F : FnG X.prog X.w X.K X.mg X.base CX k f fd ps sp) (hr : RoomG k X.A) (hg : Gl X x) (hm : X.mg x = some (.ref f)) (hk : PySem.W.keepIn X.K (.ref f) = true) (hb : Binds X.K fd ps ds) (hd : Vals dvs ds) (hx : Passes CX X E)
    (ha : PA X (e :: es) t) (hdb : (x == ("__debug__" : Str)) = false := by decide) (he : starEach (e :: es) X.env = (false, eval e X.env) :: starEach es X.env := by rfl) (hpl : (backTo pos (starEach es X.env)).any (·.1) = false := by rfl) :
    PE X (.Call (.Name x p) (e :: es) [] pos) (tCall sp dvs E t) := by
  refine ⟨fun pins s σ H Q I h => wpAny_Call_Name_kw (ld_glob I hg hm ?_ hdb)⟩
  exact PySem.W.callWith_K (h₀ := X.base) I.ok.mod.kin hk (thn (ha.run pos pins s σ H _ I h) fun us s1 ⟨vs, H1, I1, r, q⟩ => ⟨I1.kIn, run_fnG F hr hb hd hx I1 r q⟩) he hpl
/-- f(e, .., k = v, ..) -/
theorem pe_callKG (F : FnG X.prog X.w X.K X.mg X.base CX k f fd ps sp) (hr : RoomG k X.A) (hg : Gl X x) (hm : X.mg x = some (.ref f)) (hk : PySem.W.keepIn X.K (.ref f) = true) (hb : KBinds X.K fd ps ks g gV) (hx : Passes CX X E)
    (ha : PA X (e :: es) t) (hkw : PK X kws tk) (hall : (backToKw pos (keywordEach kws X.env)).all (·.1.isSome) = true := by rfl) (hks : (backToKw pos (keywordEach kws X.env)).filterMap (·.1) = ks := by rfl)
    (hdb : (x == ("__debug__" : Str)) = false := by decide) (he : starEach (e :: es) X.env = (false, eval e X.env) :: starEach es X.env := by rfl)
    (hpl : ((backTo pos (starEach (e :: es) X.env)).any (·.1) || (backToKw pos (keywordEach kws X.env)).any (·.1.isNone)) = false := by rfl) :
    PE X (.Call (.Name x p) (e :: es) kws pos) (tCallK sp gV E t tk) := by
  refine ⟨fun pins s σ H Q I h => wpAny_Call_Name_kw (ld_glob I hg hm ?_ hdb)⟩
  refine PySem.W.callWith_KW (h₀ := X.base) I.ok.mod.kin hk hall (thn (ha.run pos pins s σ H _ I h) fun us s1 ⟨vs, H1, I1, r, q⟩ => ?_) hpl he
  refine thn (hkw.run pos pins s1 σ H1 _ I1 q) fun ws s2 ⟨zs, H2, I2, rz, q2⟩ => ⟨I2.kIn, ?_⟩
  rw [hks]
  have r2 := hb.rel r rz
  have hl : (g us ws).length = ps.length := by rw [← r2.length]; exact F.len _ _ _ _ q2
  refine wpAny_call (codeAny_mono (F.run X.A X.stack s2 H2 ⟨us, ks.zip ws⟩ (g us ws) (gV vs zs) Q E hr I2.env0 (hb.to s2 us ws I2.kIn hl) r2 q2) fun r s' hq => ?_)
  have z := end_fn hx I2 hq
  cases r with
  | error er => exact z
  | ok fl => cases fl <;> exact z
end

/-- what the law leaves, its own call -/
theorem law_runG {P : Program} {w : World} {K : PySem.W.Frag} {mg mb : Str → Option Value} {CX : CXT} {k : Nat} {fa a : Addr} {fd : FuncData} {x : Str} {sp : Sp} {s₁ : Shared} {vs : List Value} {ns : List Int}
    (KX : K.In s₁.heap) (hns : s₁.heap.Ns mainGlobals mg) (hb : s₁.heap.Ns builtinsNs mb) (hbb : ∀ x : Str, x ≠ "__name__" → mb x = bootBuiltins x) (hlim : s₁.heap.NoLimit) (hg : s₁.gens = #[])
    (ha : s₁.heap.get? a = some { cls := .type "list", data := .seq vs.toArray }) (hi : IntsAre vs ns) (hl : ns.length ≤ sizeLine) (hr : Room k callerA)
    (F : ∀ base : Heap, K.In base → base.Ns mainGlobals mg → FnG P w K mg base CX k fa fd [x] sp) (hbind : ∀ (s : Shared) (u : Value), BindsTo s fd ⟨[u], []⟩ [(x, u)])
    (hsp : ∀ H : Hp, Only H → SqL K H a (ns.map V.int) → sp [.ref a] H (fun v _ => v = .bl true) fun _ _ _ => False)
    (hCX : ∀ H e s', CX [] H s₁ (fun _ _ _ => False) e s' → False) :
    codeAny (model P w) callerA (.call (.ref fa) ⟨[.ref a], []⟩) (fun r s' => r = .ok (.ret (.bool true)) ∧ OldK s₁.heap s'.heap ∧ s'.os = s₁.os ∧ AllBare s'.gens) s₁ := by
  have rv := vals_ints hi
  have lenV := hi.length
  have core : ∀ H : Hp, Only H → SqL K H a (ns.map V.int) → HOk P w H s₁.heap → (∀ b, H b ≠ none → b = a) → (H a ≠ none → K.lookup a = none) →
      codeAny (model P w) callerA (.call (.ref fa) ⟨[.ref a], []⟩) (fun r s' => r = .ok (.ret (.bool true)) ∧ OldK s₁.heap s'.heap ∧ s'.os = s₁.os ∧ AllBare s'.gens) s₁ := by
    intro H hO hS hok hA hK
    have only : ∀ {b : Addr} {u : HO}, H b = some u → b = a := fun {b u} q => hA b (by rw [q]; exact Option.some_ne_none u)
    have noA : ∀ {b : Addr} {o : Obj} {es : Array DictEntry} {ep : Nat}, s₁.heap.get? b = some o → o.data = .dict es ep → H b = none := fun {b o es ep} e d => by
      cases q : H b with
      | none => rfl
      | some u =>
        rw [only q, ha] at e
        cases e
        cases d
    have nsK : ∀ {b : Addr} {m : Str → Option Value}, s₁.heap.Ns b m → (hidT s₁.heap H).Ns b m := fun {b m} ⟨o, es, ep, e, d, r⟩ => ⟨o, es, ep, hidT_get e (noA e d), d, r⟩
    have hKb : K.In (hidT s₁.heap H) := fun b o e => hidT_get (KX b o e) (by
      cases q : H b with
      | none => rfl
      | some u =>
        have z := only q
        subst z
        rw [hK (by rw [q]; exact Option.some_ne_none u)] at e
        cases e)
    have hM : Mod K mg (hidT s₁.heap H) := ⟨hKb, nsK hns, ⟨mb, nsK hb, hbb⟩, let ⟨mc, h1, h2⟩ := hlim; ⟨mc, nsK h1, h2⟩⟩
    have e0 : Env0 P w K mg (hidT s₁.heap H) callerA [] s₁ H := ⟨rfl, hM, fun b o e => of_hidT e, Nat.le_of_eq (hidT_size _ _), trivial, fun b hb => absurd (show b ∈ ([] : List Addr) from hb) (by simp), hok, .of_eq hg⟩
    refine codeAny_mono ((F _ hKb (nsK hns)).run callerA [] s₁ H ⟨[.ref a], []⟩ [.ref a] [.ref a] _ _ ⟨hr, rfl⟩ e0 (hbind s₁ (.ref a)) (.cons rfl .nil) (hsp H hO hS)) fun r s' h => ?_
    cases r with
    | error e => exact (hCX H e s' h).elim
    | ok fl =>
      cases fl with
      | next => exact False.elim h
      | brk => exact False.elim h
      | cont => exact False.elim h
      | ret u =>
        obtain ⟨v, H', os, bare, un, hok', r', q⟩ := h
        obtain rfl : v = .bl true := q
        obtain rfl : u = Value.bool true := r'
        refine ⟨rfl, OldK.of_keep fun b o e => ?_, os, bare⟩
        cases q : H b with
        | none => exact un.keep b o e q (by intro z; exact absurd (show b ∈ ([] : List Addr) from z) (by simp)) (by simp)
        | some u =>
          rcases hO b with z | ⟨ob, xs, z⟩
          · rw [q] at z; cases z
          · have z2 := un.frzs b ob _ z
            obtain ⟨e1, _⟩ := hok b _ z
            obtain ⟨e2, _⟩ := hok' b _ z2
            rw [e] at e1; cases e1
            exact e2
  cases hk : K.lookup a with
  | some o =>
    have e := KX a o hk
    rw [ha] at e
    cases e
    refine core (fun _ => none) (fun _ => .inl rfl) (.inr ⟨_, vs.toArray, _, hk, rfl, rfl, rfl, by rw [List.size_toArray, lenV]; exact hl, by simpa using rv⟩) (fun b u z => by have z' : (none : Option HO) = some u := z; cases z') (fun b z => absurd rfl z) fun z => absurd rfl z
  | none =>
    have at_a : ∀ (b : Addr) (u : HO), (if b = a then some (HO.frz { cls := .type "list", data := .seq vs.toArray } (.lst (ns.map V.int))) else none) = some u → b = a ∧ u = HO.frz { cls := .type "list", data := .seq vs.toArray } (.lst (ns.map V.int)) := fun b u z => by
      by_cases hb : b = a
      · rw [if_pos hb] at z
        exact ⟨hb, (Option.some.inj z).symm⟩
      · rw [if_neg hb] at z
        cases z
    refine core (fun b => if b = a then some (.frz { cls := .type "list", data := .seq vs.toArray } (.lst (ns.map V.int))) else none) (fun b => ?_) (.inl (.inr ⟨{ cls := .type "list", data := .seq vs.toArray }, if_pos rfl⟩)) (fun b u z => ?_) (fun b z => ?_) fun _ => hk
    · by_cases hb : b = a
      · exact .inr ⟨_, _, if_pos hb⟩
      · exact .inl (if_neg hb)
    · obtain ⟨rfl, rfl⟩ := at_a b u z
      exact ⟨ha, by rw [List.length_map]; exact hl, vs, _, rv, ha⟩
    · cases q : (if b = a then some (HO.frz { cls := .type "list", data := .seq vs.toArray } (.lst (ns.map V.int))) else none) with
      | none => exact absurd q z
      | some u => exact (at_a b u q).1

/-- the goal that k_head leaves (case hc), from the law's promise -/
theorem walk_ofG {l : PySem.W.OpenLaw} {n k : Nat} {q : Program} {loose : List Str} {XP : (Str → Option Value) → Heap → Prop} {YP : World → Heap → Prop} {d : DefRec} {K : Params → PySem.W.Frag} {CX : World → CXT} {sp : World → Sp} {x : Str}
    (hn : l.most = some n) (hn2 : n ≤ sizeLine) (hdf : d.params.defaults = []) (hr : Room k callerA)
    (hY : ∀ (w : World) (h : Heap), YP w h → (K w.params).In h)
    (F : ∀ (w : World) (mg : Str → Option Value) (fa : Addr) (h : Heap), (K w.params).In h → h.Ns mainGlobals mg → mg d.name = some (.ref fa) →
      ∃ fd : FuncData, (∀ (s : Shared) (u : Value), BindsTo s fd ⟨[u], []⟩ [(x, u)]) ∧
        ∀ base : Heap, (K w.params).In base → base.Ns mainGlobals mg → FnG l.prog w (K w.params) mg base (CX w) k fa fd [x] (sp w))
    (hsp : ∀ (w : World) (H : Hp) (a : Addr) (ns : List Int), ns.length ≤ n → Only H → SqL (K w.params) H a (ns.map V.int) → sp w [.ref a] H (fun v _ => v = .bl true) fun _ _ _ => False)
    (hCX : ∀ (w : World) (H : Hp) (s : Shared) (e : Value) (s' : Shared), CX w [] H s (fun _ _ _ => False) e s' → False) :
    PySem.W.WalkO q loose XP YP l.row.toRowW d [] (fun f vs => PySem.call f vs) := by
  refine Att.attach_call hn hdf fun w s₀ s₁ mg mb fa o pm cd doc a vs ns G Y ho hd hcd hmg hobj hints hlen hg => ?_
  have KX := hY w _ Y
  obtain ⟨fd, hb, hF⟩ := F w mg fa _ KX G.T.g hmg
  exact law_runG KX G.T.g G.T.b G.T.builtins G.T.nolimit hg hobj hints (Nat.le_trans hlen hn2) hr hF hb (fun H hO hS => hsp w H a ns hlen hO hS) fun H e s' => hCX w H s₁ e s'
end GL

/-! Rules of the layer over data: repr; set(list of flat tuples), set(list of ints), sorted of such sets; < of tuples. -/
namespace KS
open PySem PySem.Spec PyProof.Rows L2
def atomD : Key → PyData
  | .inl i => .int i
  | .inr x => .str x
/-- a flat tuple as data -/
def encK (k : List Key) : PyData := .tuple (k.map atomD)
section
variable {P : Program} {w : World} {A : Around} {E : Value → Shared → Prop} {s : Shared}
theorem reads_items {h : Heap} : ∀ {k : List Key} {vs : List Value}, ItemsAre (mixKind P w) k vs → ReadsAll h vs (k.map atomD) []
  | _, _, .nil => .nil
  | _, _, @ItemsAre.cons _ _ _ _ _ k v ks vs h1 t => by
    have hv : ∃ as, Reads h v (atomD k) as ∧ as = [] := by
      rcases keyIs_shape (show keyIs k v = true from h1) with ⟨i, tk, rfl, rfl⟩ | ⟨x, tk, rfl, rfl⟩
      · exact ⟨_, Reads.int i tk, rfl⟩
      · exact ⟨_, Reads.str x tk, rfl⟩
    obtain ⟨as, r, rfl⟩ := hv
    exact ReadsAll.cons r (reads_items t)
theorem reads_key {h : Heap} {k : List Key} {b : Addr} (x : IsTupleKey (mixKind P w) h k b) : Reads h (.ref b) (encK k) [] := by
  obtain ⟨o, its, n, ho, hc, hd, hi⟩ := x
  exact Reads.tuple ho hc hd (reads_items hi)
theorem depth_atoms : ∀ k : List Key, PyData.depthAll (k.map atomD) = 0
  | [] => by simp [PyData.depthAll]
  | x :: k => by
    rw [List.map_cons, PyData.depthAll, depth_atoms k]
    cases x <;> simp [atomD, PyData.depth]
theorem depth_key (k : List Key) : (encK k).depth = 1 := by
  unfold encK
  rw [PyData.depth, depth_atoms]
theorem each_refs : ∀ (L : List (Addr × List Key)), W.EachIs (fun v (p : Addr × List Key) => v = Value.ref p.1) (L.map fun p => Value.ref p.1) L
  | [] => .nil
  | p :: L => .cons rfl (each_refs L)
theorem refs_each : ∀ {vs : List Value} {L : List (Addr × List Key)}, W.EachIs (fun v (p : Addr × List Key) => v = Value.ref p.1) vs L → vs = L.map fun p => Value.ref p.1
  | _, _, .nil => rfl
  | _, _, .cons h t => by rw [h, refs_each t]; rfl
theorem dataLe_total {β : Type} (k : β → PyData) : W.TotalLe (W.dataLe false k) := W.sortLe_total _ _ _
theorem nodup_map {α β : Type} {f : α → β} {l : List α} (h : (l.map f).Nodup) : l.Nodup := List.Pairwise.of_map f (fun _ _ hne e => hne (congrArg f e)) h

/-- sorted(s), s a set of flat tuples of one shape -/
theorem sorted_kset {a : Addr} {L : List (Addr × List Key)} {es : Array (Int × Value)} {ep : Nat} {t : SetTable} {Q : Value → Shared → Prop} (R : KSetAt (mix P w) s.heap a L es ep t) (hh : A.handled = none) (hu : A.units + 64 < cLine)
    (hal : ∀ p ∈ L, ∀ q ∈ L, W.alike (encK p.2) (encK q.2) = true) (hne : ∀ p ∈ L, p.2 ≠ [])
    (hQ : ∀ s' p (out : Array Value) (c : Nat) (L' : List (Addr × List Key)), (∀ b o, s.heap.get? b = some o → s'.heap.get? b = some o) → s'.gens = s.gens → s'.os = s.os → s.heap.objs.size ≤ p →
      s'.heap.get? p = some (seqObj "list" out c) → out.toList = L'.map (fun q => Value.ref q.1) → L'.Perm L → L'.Pairwise (fun q r => W.dataLt (encK r.2) (encK q.2) = false) → Q (.ref p) s') :
    wpAny (model P w) A (call (.builtin "sorted") [.ref a]) Q E s := by
  obtain ⟨o, ho, hex, hd⟩ := R.obj
  have hsz := R.size
  have hfew := R.few
  refine Calls.call_function_entry kind_sorted plain_sorted entry_sorted (args_sorted1 _) ?_
  unfold Builtin.«sorted»
  refine wpAny_bind (m := checkCount "sorted" 1 1 _) (wpAny_pure ?_)
  refine wpAny_bind (collect_set (A := A.in1) hh ⟨o, ho, hex.1, hd⟩ R.fits (by unfold scanBound; omega) R.tab.ris R.led fun s1 vs k1 hz g1 o1 pm => ?_)
  have hes : es.toList.map (·.2) = L.map fun q => Value.ref q.1 := by
    rw [R.rows]
    unfold krows
    rw [List.map_map]
    rfl
  rw [hes] at pm
  have ord : ∀ vs : List Value, (∀ v ∈ vs, ∃ q ∈ L, v = Value.ref q.1) → ∃ L1 : List (Addr × List Key), vs = L1.map (fun q => Value.ref q.1) ∧ ∀ q ∈ L1, q ∈ L := by
    intro vs
    induction vs with
    | nil => exact fun _ => ⟨[], rfl, fun q hq => (nomatch hq)⟩
    | cons v vs ih =>
      intro hv
      obtain ⟨q, hq, e⟩ := hv v List.mem_cons_self
      obtain ⟨L1, e1, hs⟩ := ih fun u hu => hv u (List.mem_cons_of_mem _ hu)
      refine ⟨q :: L1, by rw [List.map_cons, e, e1], fun r hr => ?_⟩
      rcases List.mem_cons.mp hr with rfl | z
      · exact hq
      · exact hs r z
  have one : ∀ q ∈ L, ∀ r ∈ L, q.1 = r.1 → q = r := fun q hq r hr e => by
    have a1 := R.mem q hq
    have a2 := R.mem r hr
    rw [e] at a1
    exact Prod.ext e ((mix P w).inj a1 a2)
  obtain ⟨L1, e1, hs1⟩ := ord vs fun v hv => by
    obtain ⟨q, hq, e⟩ := List.mem_map.mp (pm.mem_iff.mp hv)
    exact ⟨q, hq, e.symm⟩
  have pL : L1.Perm L := by
    rw [e1] at pm
    have nL : L.Nodup := nodup_map R.nd
    have nref : (L.map fun q => Value.ref q.1).Nodup := List.pairwise_map.mpr (List.Pairwise.imp_of_mem (fun {q r} hq hr hne e => by
      injection e with e
      exact hne (one q hq r hr e)) nL)
    have n1 : L1.Nodup := nodup_map (pm.nodup_iff.mpr nref)
    refine (List.perm_ext_iff_of_nodup n1 nL).mpr fun q => ⟨hs1 q, fun hq => ?_⟩
    obtain ⟨r, hr, e⟩ := List.mem_map.mp (pm.mem_iff.mpr (List.mem_map.mpr ⟨q, hq, rfl⟩))
    injection e with e
    rw [← one r (hs1 r hr) q hq e]
    exact hr
  have hvl : vs.length ≤ 76 := by rw [pm.length_eq, List.length_map]; exact hfew
  refine wpAny_bind (wpAny_newList ?_ (by rw [sizeLine_eq]; omega))
  have hoL : (s1.heap.push (seqObj "list" vs.toArray 0)).get? s1.heap.objs.size = some (seqObj "list" vs.toArray 0) := Heap.get?_push_size _ rfl
  have hL1 : L1.length ≤ 76 := by rw [pL.length_eq]; exact hfew
  have each : W.EachIs (fun v (p : Addr × List Key) => ∃ as, Reads (s1.heap.push (seqObj "list" vs.toArray 0)) v (encK p.2) as ∧ s1.heap.objs.size ∉ as) vs L1 := by
    rw [e1]
    have key : ∀ M : List (Addr × List Key), (∀ q ∈ M, q ∈ L) → W.EachIs (fun v (p : Addr × List Key) => ∃ as, Reads (s1.heap.push (seqObj "list" (L1.map fun q => Value.ref q.1).toArray 0)) v (encK p.2) as ∧ s1.heap.objs.size ∉ as) (M.map fun p => Value.ref p.1) M := by
      intro M
      induction M with
      | nil => exact fun _ => .nil
      | cons p M ih =>
        intro hM
        refine .cons ⟨[], reads_key (P := P) (w := w) ((mix P w).keep (R.mem p (hM p List.mem_cons_self)) fun b o _ _ hb _ => Heap.get?_push_of_some _ (k1 b o hb)), List.not_mem_nil⟩ (ih fun q hq => hM q (List.mem_cons_of_mem _ hq))
    exact key L1 hs1
  refine wpAny_bind (wpAny_holding (W.list_sort_data (s := { s1 with heap := s1.heap.push (seqObj "list" vs.toArray 0) }) (bs := L1) (enc := fun p => encK p.2) (R := fun v p => v = Value.ref p.1) hoL (by rw [e1]; exact each_refs L1) each ?_ ?_ (by rw [sizeLine_eq]; omega) (fun b _ => ?_) fun out hlen hout => ?_))
  · intro d hd d' hd'
    obtain ⟨p, hp, rfl⟩ := List.mem_map.mp hd
    obtain ⟨q, hq, rfl⟩ := List.mem_map.mp hd'
    exact hal p (hs1 p hp) q (hs1 q hq)
  · refine .inl fun d hd => ?_
    obtain ⟨p, hp, rfl⟩ := List.mem_map.mp hd
    cases e : p.2 with
    | nil => exact absurd e (hne p (hs1 p hp))
    | cons x r =>
      refine ⟨atomD x, r.map atomD, ?_⟩
      unfold encK
      rw [List.map_cons]
  · rw [depth_key]
    show A.units + 1 + 1 + 1 < cLine
    omega
  · obtain ⟨c, hc⟩ := sortedHeap_at (vs := vs) (out := out.toArray) hoL
    have eo := refs_each hout
    refine wpAny_pure ⟨_, rfl, hQ _ s1.heap.objs.size out.toArray c (L1.mergeSort (W.dataLe false fun p => encK p.2)) (fun b u e => ?_) g1 o1 hz hc (by simpa using eo) ((List.mergeSort_perm _ _).trans pL) ?_⟩
    · have q := k1 b u e
      have hlt := Heap.lt_size q
      show (sortedHeap (s1.heap.push (seqObj "list" vs.toArray 0)) s1.heap.objs.size vs out.toArray).get? b = some u
      rw [sortedHeap_old (Nat.ne_of_lt hlt) (by rw [size_push']; exact Nat.lt_succ_of_lt hlt)]
      exact Heap.get?_push_of_some _ q
    · refine (W.sort_pairwise (dataLe_total fun p : Addr × List Key => encK p.2) L1).imp fun {p q} h => ?_
      have h' : (!W.dataLt (encK q.2) (encK p.2)) = true := h
      simpa using h'
end

/-- the set at a, its members aside -/
structure KSet0 (P : Program) (w : World) (h : Heap) (a : Addr) (L : List (Addr × List Key)) : Prop where
  ex : ∃ (es : Array (Int × Value)) (ep : Nat) (t : SetTable), (∃ o, h.get? a = some o ∧ o.ExactSet ∧ o.data = .set es ep t) ∧ es.toList = krows (mix P w) L ∧ TabOk t (L.map fun p => (mix P w).hash p.2) ∧ (L.map (·.2)).Nodup ∧
    (w.params.followText "set-order" = true ∨ t.led = true) ∧ L.length * 5 < t.mask * 3 ∧ L.length ≤ 76
def KSetO (P : Program) (w : World) (a : Addr) (L : List (Addr × List Key)) : HO := .ext fun h => KSet0 P w h a L
theorem kset0_of {P : Program} {w : World} {h : Heap} {a : Addr} {L : List (Addr × List Key)} {es : Array (Int × Value)} {ep : Nat} {t : SetTable} (R : KSetAt (mix P w) h a L es ep t) : KSet0 P w h a L :=
  ⟨es, ep, t, R.obj, R.rows, R.tab, R.nd, R.led, R.room, R.few⟩
theorem kset0_full {P : Program} {w : World} {h : Heap} {a : Addr} {L : List (Addr × List Key)} (R : KSet0 P w h a L) (ht : ∀ p ∈ L, (mix P w).is h p.2 p.1) : ∃ es ep t, KSetAt (mix P w) h a L es ep t := by
  obtain ⟨es, ep, t, h1, h2, h3, h4, h5, h6, h7⟩ := R.ex
  exact ⟨es, ep, t, h1, h2, h3, h4, ht, h5, h6, h7⟩
theorem ksetO_new {P : Program} {w : World} {H : Hp} {h : Heap} {a : Addr} {L : List (Addr × List Key)} (R : KSet0 P w h a L) : ObjOk P w H h a (KSetO P w a L) := by
  have ⟨es, ep, t, ⟨o, ho, r⟩, q⟩ := R.ex
  refine ⟨R, ⟨o, ho⟩, fun h1 h2 p k => ?_⟩
  have ⟨es', ep', t', ⟨o', ho', r'⟩, q'⟩ := KSet0.ex p
  exact ⟨es', ep', t', ⟨o', k o' ho', r'⟩, q'⟩
theorem kItems {P : Program} {w : World} : ∀ {k : List Key} {us : List Value}, Vals (k.map kV) us → ItemsAre (mixKind P w) k us
  | [], _, .nil => .nil
  | .inl n :: k, _, .cons r t => by
    obtain ⟨tk, rfl⟩ := r
    exact .cons (keyIs_int n tk) (kItems t)
  | .inr x :: k, _, .cons r t => by
    obtain ⟨tk, rfl⟩ := r
    exact .cons (keyIs_str x tk) (kItems t)
theorem kRefs : ∀ {ks : List (Addr × List Key)} {us : List Value}, Vals (ks.map fun p => V.ref p.1) us → us = ks.map fun p => Value.ref p.1
  | [], _, .nil => rfl
  | p :: ks, _, .cons r t => by
    cases r
    rw [kRefs t]
    rfl
theorem kVals : ∀ (ks : List (Addr × List Key)), Vals (ks.map fun p => V.ref p.1) (ks.map fun p => Value.ref p.1)
  | [] => .nil
  | p :: ks => .cons rfl (kVals ks)
section
variable {X : Cx}
theorem inv_key {pins : List (Addr × Obj)} {σ : L2.St} {H : Hp} {s : Shared} {b : Addr} {k : List Key} (I : L2.Inv X pins σ H s) (h : SqT X.K H b (k.map kV)) : IsTupleKey (mixKind X.prog X.w) s.heap k b := by
  obtain ⟨its, r, ⟨o, ho, hc, n, hd⟩, _⟩ := I.tuple h
  exact ⟨o, its.toArray, n, ho, hc, hd, by simpa using kItems r⟩
/-- set(xs), xs a list of flat tuples -/
def rSetK (K : PySem.W.Frag) (P : Program) (w : World) : List V → Hp → VK → Prop := fun xs H Q => ∃ (l : Addr) (ks : List (Addr × List Key)), xs = [V.ref l] ∧ SqL K H l (ks.map fun p => V.ref p.1) ∧ (∀ p ∈ ks, SqT K H p.1 (p.2.map kV)) ∧ ks.length ≤ 76 ∧
  ∀ a L, H a = none → (∀ p ∈ L, p ∈ ks) → (∀ p ∈ ks, p.2 ∈ L.map (·.2)) → (L.map (·.2)).Nodup → Q (.ref a) (upd H a (KSetO P w a L))
theorem cr_setK (hc : X.calm = true) (hu : X.A.units + 64 < cLine) : CallR X (.type "set") (rSetK X.K X.prog X.w) := by
  intro pins s σ H xs us Q I r h
  obtain ⟨l, ks, rfl, hl, hk, hf, q⟩ := h
  rw [Vals.ref1 r]
  obtain ⟨its, rv, pl, hz⟩ := I.list hl
  have hn : H s.heap.objs.size = none := I.hok.fresh (Nat.le_refl _)
  refine set_of_list (κ := mix X.prog X.w) ks (I.ok.hd hc) pl.isList (by simpa using kRefs rv) (fun p hp => inv_key I (hk p hp)) hf (by omega) fun h' tk L es ep t R g k => ?_
  refine ⟨.ref s.heap.objs.size, upd H s.heap.objs.size (KSetO X.prog X.w s.heap.objs.size L), I.laid (t' := tk) k (Nat.le_refl _) (ksetO_new (kset0_of R)), rfl, q _ L hn (fun p hp => List.mem_of_mem_take (g.sub p hp)) (fun p hp => ?_) R.nd⟩
  exact g.all p (by rw [List.take_length]; exact hp)
/-- set(xs), xs a list of ints -/
def rSetI (K : PySem.W.Frag) (w : World) : List V → Hp → VK → Prop := fun xs H Q => ∃ (l : Addr) (ns : List Int), xs = [V.ref l] ∧ SqL K H l (ns.map V.int) ∧ ns.length ≤ 1000 ∧
  ∀ a c, H a = none → c ≤ ns.length → Q (.ref a) (upd H a (SetO w a (fun j => decide (j ∈ ns)) c))
theorem cr_setI (hc : X.calm = true) : CallR X (.type "set") (rSetI X.K X.w) := by
  intro pins s σ H xs us Q I r h
  obtain ⟨l, ns, rfl, hl, hf, q⟩ := h
  rw [Vals.ref1 r]
  obtain ⟨its, rv, pl, hz⟩ := I.list hl
  have hn : H s.heap.objs.size = none := I.hok.fresh (Nat.le_refl _)
  refine set_of_ints (P := X.prog) (w := X.w) ns (I.ok.hd hc) pl.isList (by simpa using ints_of_vals rv) (by unfold scanBound; omega) fun h' tk c R hc' k => ?_
  exact ⟨.ref s.heap.objs.size, upd H s.heap.objs.size (SetO X.w s.heap.objs.size (fun j => decide (j ∈ ns)) c), I.laid (t' := tk) k (Nat.le_refl _) (setO_new R), rfl, q _ c hn hc'⟩
/-- sorted(s), s a set of flat tuples of one shape -/
def rSortedK (K : PySem.W.Frag) (P : Program) (w : World) : List V → Hp → VK → Prop := fun vs H Q => ∃ (a : Addr) (L : List (Addr × List Key)), vs = [V.ref a] ∧ H a = some (KSetO P w a L) ∧ (∀ p ∈ L, SqT K H p.1 (p.2.map kV)) ∧
  (∀ p ∈ L, ∀ q ∈ L, W.alike (encK p.2) (encK q.2) = true) ∧ (∀ p ∈ L, p.2 ≠ []) ∧
  ∀ (L' : List (Addr × List Key)) (p : Addr), L'.Perm L → (L'.map (·.2)).Nodup → L'.length ≤ 76 → L'.Pairwise (fun q r => W.dataLt (encK r.2) (encK q.2) = false) → H p = none → Q (.ref p) (upd H p (.lst (L'.map fun q => V.ref q.1)))
theorem cr_sortedK (hc : X.calm = true) (hu : X.A.units + 64 < cLine) : CallR X (.builtin "sorted") (rSortedK X.K X.prog X.w) := by
  intro pins s σ H vs us Q I r h
  obtain ⟨a, L, rfl, ha, hk, hal, hne, q⟩ := h
  have R0 : KSet0 X.prog X.w s.heap a L := (I.hok a _ ha).1
  obtain ⟨es, ep, t, R⟩ := kset0_full R0 fun p hp => inv_key I (hk p hp)
  rw [Vals.ref1 r]
  refine sorted_kset R (I.ok.hd hc) hu hal hne fun s' p out c L' k g o hp hg hout pm pw => ?_
  have hfew : L'.length ≤ 76 := by rw [pm.length_eq]; exact R.few
  have hlen : (L'.map fun q => V.ref q.1).length ≤ sizeLine := by rw [List.length_map, sizeLine_eq]; omega
  have hn : H p = none := I.hok.fresh hp
  have hv : Vals (L'.map fun q => V.ref q.1) out.toList := by rw [hout]; exact kVals L'
  have J : L2.Inv X pins σ (upd H p (.lst (L'.map fun q => V.ref q.1))) { s with heap := s'.heap, gens := s'.gens, drawn := s'.drawn, toks := s'.toks } :=
    I.call (ch := []) (Un.laid k hp hn) (I.hok.laid k hp ⟨hlen, out.toList, c, hv, hg⟩) (by rw [g]; exact I.bare) (fun _ z => nomatch z)
  have e : s' = { s with heap := s'.heap, gens := s'.gens, drawn := s'.drawn, toks := s'.toks } := by
    cases s'
    cases s
    cases o
    rfl
  rw [e]
  exact ⟨.ref p, _, J, rfl, q L' p pm ((pm.map (·.2)).nodup_iff.mpr R.nd) hfew pw hn⟩

/-! ### repr -/
mutual
theorem noDict_dp {K : PySem.W.Frag} {H : Hp} : ∀ (d : PyData) (v : V), Dp K H v d → d.hasDict = false
  | .none, _, _ => by simp [PyData.hasDict]
  | .bool _, _, _ => by simp [PyData.hasDict]
  | .int _, _, _ => by simp [PyData.hasDict]
  | .str _, _, _ => by simp [PyData.hasDict]
  | .list ds, _, h => by
    cases h with
    | lst _ ha => rw [PyData.hasDict]; exact noDict_all ds _ ha
  | .tuple ds, _, h => by
    cases h with
    | tup _ ha => rw [PyData.hasDict]; exact noDict_all ds _ ha
  | .dict _, _, h => by cases h
theorem noDict_all {K : PySem.W.Frag} {H : Hp} : ∀ (ds : List PyData) (vs : List V), DpAll K H vs ds → PyData.hasDictAll ds = false
  | [], _, _ => by simp [PyData.hasDictAll]
  | d :: ds, _, h => by
    cases h with
    | cons h1 h2 => rw [PyData.hasDictAll, noDict_dp d _ h1, noDict_all ds _ h2]; rfl
end
/-- a < b of data of one shape -/
def rLtD (K : PySem.W.Frag) : R2 := fun x y H Q => ∃ d e, Dp K H x d ∧ Dp K H y e ∧ W.alike d e = true ∧ d ≠ .none ∧ d.depth ≤ 60 ∧ Q (.bl (W.dataLt d e)) H
end
end KS

/-! What all laws share: calls of defs by their promise; the deck of numbers that is drawn from. -/
namespace LB
open PySem PySem.Spec PyProof.Rows L2 KS GL
/-- the def named x stands and keeps its promise -/
structure Has (P : Program) (w : World) (K : PySem.W.Frag) (mg : Str → Option Value) (base : Heap) (x : Str) (k : Nat) (ps : List Str) (sp : Sp) : Prop where
  ex : ∃ f fd, FnOk P w K mg base CX0 k f fd ps sp ∧ mg x = some (.ref f) ∧ PySem.W.keepIn K (.ref f) = true ∧ Binds K fd ps []
section
variable {X : Cx} {x y : Str} {k : Nat} {ps : List Str} {sp : Sp} {e : Expr} {es : List Expr} {t : TA} {p pos kpos : Pos} {te : TE}
theorem pe_has (h : Has X.prog X.w X.K X.mg X.base x k ps sp) (hr : Room k X.A) (hg : Gl X x) (ha : PA X (e :: es) t) (hdb : (x == ("__debug__" : Str)) = false := by decide)
    (he : starEach (e :: es) X.env = (false, eval e X.env) :: starEach es X.env := by rfl) (hpl : (backTo pos (starEach es X.env)).any (·.1) = false := by rfl) : PE X (.Call (.Name x p) (e :: es) [] pos) (tCall sp [] E0 t) := by
  obtain ⟨f, fd, F, hm, hk, hb⟩ := h.ex
  exact pe_call F hr hg hm hk hb .nil pass0 ha hdb he hpl
theorem pe_has0 (h : Has X.prog X.w X.K X.mg X.base x k ps sp) (hr : Room k X.A) (hg : Gl X x) (hdb : (x == ("__debug__" : Str)) = false := by decide) : PE X (.Call (.Name x p) [] [] pos) (tCall sp [] E0 tNil) := by
  obtain ⟨f, fd, F, hm, hk, hb⟩ := h.ex
  exact pe_call0 F hr hg hm hk hb .nil pass0 hdb
/-- .. by the name of its one parameter, too -/
structure HasKw (P : Program) (w : World) (K : PySem.W.Frag) (mg : Str → Option Value) (base : Heap) (x : Str) (k : Nat) (y : Str) (sp : Sp) : Prop where
  ex : ∃ f fd, FnOk P w K mg base CX0 k f fd [y] sp ∧ mg x = some (.ref f) ∧ PySem.W.keepIn K (.ref f) = true ∧ ∀ (s : Shared) (u : Value), BindsTo s fd ⟨[], [(y, u)]⟩ [(y, u)]
def tCallKw (sp : Sp) (te : TE) : TE := fun σ H Q => te σ H fun v H1 => sp [v] H1 Q E0
theorem pe_hasKw (h : HasKw X.prog X.w X.K X.mg X.base x k y sp) (hr : Room k X.A) (hg : Gl X x) (ha : PE X e te) (hdb : (x == ("__debug__" : Str)) = false := by decide)
    (hall : (backToKw pos (keywordEach [⟨some y, e, kpos⟩] X.env)).all (·.1.isSome) = true := by rfl) (hks : (backToKw pos (keywordEach [⟨some y, e, kpos⟩] X.env)).filterMap (·.1) = [y] := by rfl)
    (hpl : ((backTo pos (starEach [] X.env)).any (·.1) || (backToKw pos (keywordEach [⟨some y, e, kpos⟩] X.env)).any (·.1.isNone)) = false := by rfl) :
    PE X (.Call (.Name x p) [] [⟨some y, e, kpos⟩] pos) (tCallKw sp te) := by
  obtain ⟨f, fd, F, hm, hk, hb⟩ := h.ex
  refine ⟨fun pins s σ H Q I h => wpAny_Call_Name_kw (ld_glob I hg hm ?_ hdb)⟩
  refine PySem.W.callWith_KW0 (h₀ := X.base) I.ok.mod.kin hk hall ?_ hpl
  refine thn ((pk_cons ha pk_nil).run pos pins s σ H (fun vs H1 => sp vs H1 Q E0) I ?_) fun ws s2 ⟨zs, H2, I2, rz, q2⟩ => ⟨I2.kIn, ?_⟩
  · exact h
  · rw [hks]
    have hl : zs.length = 1 := F.len _ _ _ _ q2
    obtain ⟨v, rfl⟩ : ∃ v, zs = [v] := List.length_eq_one_iff.mp hl
    cases rz with
    | cons r1 r2 =>
      cases r2
      refine wpAny_call (codeAny_mono (F.run X.A X.stack s2 H2 ⟨[], [(y, _)]⟩ _ [v] Q E0 hr I2.env0 (hb s2 _) (.cons r1 .nil) q2) fun r s' hq => ?_)
      have z := end_fn pass0 I2 hq
      cases r with
      | error er => exact z
      | ok fl => cases fl <;> exact z
end
end LB

namespace LB
open PySem PySem.Spec PyProof.Rows L2 KS GL
/-- the built-ins by their names -/
structure Blt (mg : Str → Option Value) : Prop where
  b_int : mg "int" = none
  b_len : mg "len" = none
  b_list : mg "list" = none
  b_tuple : mg "tuple" = none
  b_dict : mg "dict" = none
  b_set : mg "set" = none
  b_sorted : mg "sorted" = none
  b_sum : mg "sum" = none
  b_repr : mg "repr" = none
  b_range : mg "range" = none
  b_max : mg "max" = none
  b_min : mg "min" = none

/-! ### the deck -/
theorem n_cm : ¬ (("cells" : Str) = "mixed") := by decide +kernel
theorem n_ct : ¬ (("cells" : Str) = "turn") := by decide +kernel
theorem n_mt : ¬ (("mixed" : Str) = "turn") := by decide +kernel
def deckL (c : Addr) (m t : Int) : List (Key × V) := [(Sum.inr "cells", .ref c), (Sum.inr "mixed", .int m), (Sum.inr "turn", .int t)]
theorem inr_ne {a b : Str} (h : ¬ a = b) : ¬ ((Sum.inr a : Key) = Sum.inr b) := fun e => h (Sum.inr.inj e)
theorem deck_cells (c : Addr) (m t : Int) : valV (deckL c m t) (Sum.inr "cells") = some (.ref c) := by simp [deckL, valV]
theorem deck_mixed (c : Addr) (m t : Int) : valV (deckL c m t) (Sum.inr "mixed") = some (.int m) := by
  unfold deckL valV
  rw [List.find?_cons_of_neg (by simpa using inr_ne n_cm), List.find?_cons_of_pos (by simp)]
  rfl
theorem deck_turn (c : Addr) (m t : Int) : valV (deckL c m t) (Sum.inr "turn") = some (.int t) := by
  unfold deckL valV
  rw [List.find?_cons_of_neg (by simpa using inr_ne n_ct), List.find?_cons_of_neg (by simpa using inr_ne n_mt), List.find?_cons_of_pos (by simp)]
  rfl
theorem deck_put (c : Addr) (m t u : Int) : putK (deckL c m t) (Sum.inr "turn") (.int u) = deckL c m u := by
  unfold putK deckL
  rw [if_pos (by simp)]
  simp [List.map, inr_ne n_ct, inr_ne n_mt]
structure Dk (H : Hp) (d c : Addr) (n : Nat) : Prop where
  ex : ∃ (ns : List Int) (m t : Int), H d = some (.dK (deckL c m t)) ∧ H c = some (.lst (ns.map V.int)) ∧ ns.length ≤ 63 ∧ 0 ≤ m ∧ m < 2 ^ 40 ∧ 0 ≤ t ∧ t ≤ n
/-- what is known (H0) stands, the deck aside -/
structure Bk (H0 H : Hp) (d c : Addr) (n : Nat) : Prop where
  same : Same H0 H
  hd : H0 d = none
  hc : H0 c = none
  dk : Dk H d c n
theorem Bk.mono {H0 H : Hp} {d c : Addr} {n m : Nat} (B : Bk H0 H d c n) (h : n ≤ m) : Bk H0 H d c m := by
  obtain ⟨⟨ns, x, t, a1, a2, a3, a4, a5, a6, a7⟩⟩ := B.dk
  exact ⟨B.same, B.hd, B.hc, ⟨ns, x, t, a1, a2, a3, a4, a5, a6, by omega⟩⟩
/-- a new object is not the deck -/
theorem Bk.newL {H0 H : Hp} {d c p : Addr} {n : Nat} (B : Bk H0 H d c n) (hp : H p = none) : p ≠ d ∧ p ≠ c ∧ H0 p = none := by
  obtain ⟨⟨ns, x, t, a1, a2, _⟩⟩ := B.dk
  exact ⟨(fun e => by rw [e, a1] at hp; cases hp), (fun e => by rw [e, a2] at hp; cases hp), B.same.free hp⟩
/-- a new object made: nothing more is known -/
theorem Bk.junk {H0 H : Hp} {d c p : Addr} {n : Nat} {o : HO} (B : Bk H0 H d c n) (hp : H0 p = none) (h1 : p ≠ d) (h2 : p ≠ c) : Bk H0 (upd H p o) d c n := by
  obtain ⟨⟨ns, x, t, a1, a2, a3⟩⟩ := B.dk
  refine ⟨fun b u e => ?_, B.hd, B.hc, ⟨ns, x, t, ?_, ?_, a3⟩⟩
  · rw [upd_ne (ne_of_none e hp)]
    exact B.same b u e
  · rw [upd_ne h1.symm]; exact a1
  · rw [upd_ne h2.symm]; exact a2
/-- a new object made, and known from then on -/
theorem Bk.keep {H0 H : Hp} {d c p : Addr} {n : Nat} {o : HO} (B : Bk H0 H d c n) (hp : H p = some o) (h1 : p ≠ d) (h2 : p ≠ c) : Bk (upd H0 p o) H d c n := by
  refine ⟨fun b u e => ?_, ?_, ?_, B.dk⟩
  · by_cases hb : b = p
    · subst hb
      rw [upd_same] at e
      rw [hp, e]
    · rw [upd_ne hb] at e
      exact B.same b u e
  · rw [upd_ne h1.symm]; exact B.hd
  · rw [upd_ne h2.symm]; exact B.hc
theorem same_upd {H : Hp} {p : Addr} {o : HO} (h : H p = none) : Same H (upd H p o) := fun b x e => by
  rw [upd_ne (ne_of_none e h)]
  exact e
theorem Bk.less {H0 H1 H : Hp} {d c : Addr} {n : Nat} (B : Bk H1 H d c n) (s : Same H0 H1) : Bk H0 H d c n := ⟨s.trans B.same, s.free B.hd, s.free B.hc, B.dk⟩

theorem shaped_ints (ns : List Int) : SeqAt.shaped (PyData.list (ns.map .int)) = true := by
  unfold SeqAt.shaped
  have h1 : ∀ l : List Int, PyData.canLayAll0 (l.map .int) = true := by
    intro l
    induction l with
    | nil => simp [PyData.canLayAll0]
    | cons x l ih => rw [List.map_cons, PyData.canLayAll0, ih]; simp [PyData.canLay0]
  have h2 : ∀ l : List Int, PyData.depthAll (l.map .int) = 0 := by
    intro l
    induction l with
    | nil => simp [PyData.depthAll]
    | cons x l ih => rw [List.map_cons, PyData.depthAll, ih]; simp [PyData.depth]
  rw [PyData.canLay0, h1, PyData.depth, h2]
  rfl
theorem dp_ints {K : PySem.W.Frag} {H : Hp} : ∀ ns : List Int, DpAll K H (ns.map V.int) (ns.map .int)
  | [] => .nil
  | n :: ns => .cons (.int n) (dp_ints ns)
theorem eqv_nil (ns : List Int) : PyData.eqv (PyData.list (ns.map .int)) (PyData.list []) = ns.isEmpty := by
  cases ns with
  | nil => simp [PyData.eqv, PyData.eqvAll]
  | cons x l => simp [PyData.eqv, PyData.eqvAll]
def spDraw : Sp := fun vs H Q _ => ∃ (H0 : Hp) (d c : Addr) (n : Nat) (many : Int), vs = [.ref d, .int many] ∧ Bk H0 H d c n ∧ 1 ≤ many ∧ many < 2 ^ 30 ∧ n < 2 ^ 40 ∧
  ∀ (k : Int) (H' : Hp), 0 ≤ k → k < many → Bk H0 H' d c (n + 1) → Q (.int k) H'
def spPick (K : PySem.W.Frag) : Sp := fun vs H Q _ => ∃ (H0 : Hp) (d c a : Addr) (n : Nat) (xs : List V), vs = [.ref d, .ref a] ∧ Bk H0 H d c n ∧ (SqL K H0 a xs ∨ SqT K H0 a xs) ∧ 1 ≤ xs.length ∧ xs.length < 2 ^ 30 ∧ n < 2 ^ 40 ∧
  ∀ (v : V) (H' : Hp), v ∈ xs → Bk H0 H' d c (n + 1) → Q v H'
def spDeck (K : PySem.W.Frag) : Sp := fun vs H Q _ => ∃ (a : Addr) (ns : List Int), vs = [.ref a] ∧ SqL K H a (ns.map V.int) ∧ ∀ (d c : Addr) (H' : Hp), Bk H H' d c 0 → Q (.ref d) H'
end LB

/-! A mirror of the slots: what is known of each local (a datum that stands, or a thing of its own that may change); readings told by it alone. -/
namespace ML
open PySem PySem.Spec PyProof.Rows L2 KS GL LB
abbrev FP := Addr → Prop
/-- what is known of a value: H0 what stands for ever, H all, f the addresses that are its own -/
structure Res where
  holds : Hp → Hp → V → FP → Prop
  loc : ∀ {H0 H0' H H' : Hp} {v : V} {f : FP}, holds H0 H v f → Same H0 H0' → (∀ a, f a → H' a = H a ∧ H0' a = none) → holds H0' H' v f
  live : ∀ {H0 H : Hp} {v : V} {f : FP} {a : Addr}, holds H0 H v f → f a → H a ≠ none ∧ H0 a = none
structure Pd where
  p : Hp → V → Prop
  mono : ∀ {H H' : Hp} {v : V}, p H v → Same H H' → p H' v
def pu (P : Pd) : Res := ⟨fun H0 _ v f => P.p H0 v ∧ ∀ a, ¬ f a, fun h s _ => ⟨P.mono h.1 s, h.2⟩, fun h ha => absurd ha (h.2 _)⟩
abbrev MS := List (Option Res)
structure Sat (ρ : MS) (σ : L2.St) (H0 H : Hp) (G : FP) : Prop where
  same : Same H0 H
  len : σ.length = ρ.length
  fr : ∀ a, G a → H a ≠ none ∧ H0 a = none
  sl : ∃ F : Nat → FP, (∀ (i : Nat) (R : Res), ρ[i]? = some (some R) → ∃ v, σ[i]? = some (some v) ∧ R.holds H0 H v (F i)) ∧ (∀ i j a, F i a → F j a → i = j) ∧ (∀ i a, F i a → ¬ G a) ∧ ∀ i a, F i a → ∃ R : Res, ρ[i]? = some (some R)
structure Ext (G : FP) (H0 H H0' H' : Hp) : Prop where
  s0 : Same H0 H0'
  fr : ∀ a, G a → H' a = H a
theorem Ext.refl {G : FP} {H0 H : Hp} : Ext G H0 H H0 H := ⟨Same.refl _, fun _ _ => rfl⟩
theorem Ext.trans {G : FP} {H0 H H1 H1' H2 H2' : Hp} (a : Ext G H0 H H1 H1') (b : Ext G H1 H1' H2 H2') : Ext G H0 H H2 H2' := ⟨a.s0.trans b.s0, fun x hx => (b.fr x hx).trans (a.fr x hx)⟩
theorem Ext.weak {G G' : FP} {H0 H H0' H' : Hp} (a : Ext G' H0 H H0' H') (h : ∀ x, G x → G' x) : Ext G H0 H H0' H' := ⟨a.s0, fun x hx => a.fr x (h x hx)⟩
inductive Rt
  | val (R : Res)
  | at (i : Nat)
def RtH : Rt → L2.St → Hp → Hp → V → FP → Prop
  | .val R, _, H0, H, v, f => R.holds H0 H v f
  | .at i, σ, _, _, v, f => σ[i]? = some (some v) ∧ ∀ a, ¬ f a
theorem RtH.loc {r : Rt} {σ : L2.St} {H0 H0' H H' : Hp} {v : V} {f : FP} (h : RtH r σ H0 H v f) (s : Same H0 H0') (hf : ∀ a, f a → H' a = H a ∧ H0' a = none) : RtH r σ H0' H' v f := by
  cases r with
  | val R => exact R.loc h s hf
  | «at» i => exact h
theorem RtH.live {r : Rt} {σ : L2.St} {H0 H : Hp} {v : V} {f : FP} {a : Addr} (h : RtH r σ H0 H v f) (hf : f a) : H a ≠ none ∧ H0 a = none := by
  cases r with
  | val R => exact R.live h hf
  | «at» i => exact absurd hf (h.2 _)
structure Post (G : FP) (σ : L2.St) (H0 H : Hp) (r : Rt) (ρ' : MS) (v : V) (f : FP) (H0' H' : Hp) : Prop where
  ext : Ext G H0 H H0' H'
  rt : RtH r σ H0' H' v f
  dis : ∀ a, f a → ¬ G a
  sat : Sat ρ' σ H0' H' fun a => G a ∨ f a
/-- an expression -/
def ev (te : TE) (ρ : MS) (Q : Rt → MS → Prop) : Prop := ∀ (σ : L2.St) (H0 H : Hp) (G : FP) (k : VK), Sat ρ σ H0 H G →
  (∀ r ρ' v f H0' H', Q r ρ' → Post G σ H0 H r ρ' v f H0' H' → k v H') → te σ H k
/-- a test -/
def evT (tt : TT) (ρ : MS) (Q : Bool → MS → Prop) : Prop := ∀ (σ : L2.St) (H0 H : Hp) (G : FP) (k : Bool → Hp → Prop), Sat ρ σ H0 H G →
  (∀ b ρ' H0' H', Q b ρ' → Ext G H0 H H0' H' → Sat ρ' σ H0' H' G → k b H') → tt σ H k
def RtsH : List Rt → L2.St → Hp → Hp → List V → FP → Prop
  | [], _, _, _, vs, f => vs = [] ∧ ∀ a, ¬ f a
  | r :: rs, σ, H0, H, vs, f => ∃ v vs' f1 f2, vs = v :: vs' ∧ RtH r σ H0 H v f1 ∧ RtsH rs σ H0 H vs' f2 ∧ (∀ a, f a ↔ f1 a ∨ f2 a) ∧ ∀ a, f1 a → ¬ f2 a
theorem RtsH.loc {σ : L2.St} {H0 H0' H H' : Hp} (s : Same H0 H0') : ∀ {rs : List Rt} {vs : List V} {f : FP}, RtsH rs σ H0 H vs f → (∀ a, f a → H' a = H a ∧ H0' a = none) → RtsH rs σ H0' H' vs f
  | [], _, _, h, _ => h
  | r :: rs, _, _, ⟨v, vs', f1, f2, e, h1, h2, h3, h4⟩, hf => ⟨v, vs', f1, f2, e, h1.loc s fun a ha => hf a ((h3 a).mpr (.inl ha)), RtsH.loc s h2 fun a ha => hf a ((h3 a).mpr (.inr ha)), h3, h4⟩
theorem RtsH.live {σ : L2.St} {H0 H : Hp} : ∀ {rs : List Rt} {vs : List V} {f : FP} {a : Addr}, RtsH rs σ H0 H vs f → f a → H a ≠ none ∧ H0 a = none
  | [], _, _, a, h, ha => absurd ha (h.2 a)
  | r :: rs, _, _, a, ⟨v, vs', f1, f2, e, h1, h2, h3, h4⟩, ha => ((h3 a).mp ha).elim h1.live (RtsH.live h2)
structure PostA (G : FP) (σ : L2.St) (H0 H : Hp) (rs : List Rt) (ρ' : MS) (vs : List V) (f : FP) (H0' H' : Hp) : Prop where
  ext : Ext G H0 H H0' H'
  rt : RtsH rs σ H0' H' vs f
  dis : ∀ a, f a → ¬ G a
  sat : Sat ρ' σ H0' H' fun a => G a ∨ f a
def evA (ta : TA) (ρ : MS) (Q : List Rt → MS → Prop) : Prop := ∀ (σ : L2.St) (H0 H : Hp) (G : FP) (k : List V → Hp → Prop), Sat ρ σ H0 H G →
  (∀ rs ρ' vs f H0' H', Q rs ρ' → PostA G σ H0 H rs ρ' vs f H0' H' → k vs H') → ta σ H k
structure Out where
  nx : MS → Prop
  rt : Rt → MS → Prop
  bk : MS → Prop
  ct : MS → Prop
/-- a statement; the first np slots keep their values -/
def ex (np : Nat) (ts : TS) (ρ : MS) (Φ : Out) : Prop := ∀ (σ : L2.St) (H0 H : Hp) (G : FP) (D : Ends), Sat ρ σ H0 H G →
  (∀ ρ' σ' H0' H', Φ.nx ρ' → σ'.take np = σ.take np → Ext G H0 H H0' H' → Sat ρ' σ' H0' H' G → D.nx σ' H') →
  (∀ r ρ' σ' v f H0' H', Φ.rt r ρ' → σ'.take np = σ.take np → Post G σ' H0 H r ρ' v f H0' H' → D.rt v H') →
  (∀ ρ' σ' H0' H', Φ.bk ρ' → σ'.take np = σ.take np → Ext G H0 H H0' H' → Sat ρ' σ' H0' H' G → D.bk σ' H') →
  (∀ ρ' σ' H0' H', Φ.ct ρ' → σ'.take np = σ.take np → Ext G H0 H H0' H' → Sat ρ' σ' H0' H' G → D.ct σ' H') → ts D σ H
/-! ### how what is known goes on -/
section
variable {ρ : MS} {σ : L2.St} {H0 H H0' H' : Hp} {G G' : FP}
theorem Sat.get (S : Sat ρ σ H0 H G) {i : Nat} {R : Res} (h : ρ[i]? = some (some R)) : ∃ v f, σ[i]? = some (some v) ∧ R.holds H0 H v f ∧ ∀ a, f a → ¬ G a := by
  obtain ⟨F, h1, h2, h3, _⟩ := S.sl
  obtain ⟨v, e, r⟩ := h1 i R h
  exact ⟨v, F i, e, r, h3 i⟩
theorem Sat.mv (S : Sat ρ σ H0 H G) (s0 : Same H0 H0') (s1 : Same H0' H') (hk : ∀ a, (G a ∨ H a ≠ none ∧ H0 a = none) → H' a = H a ∧ H0' a = none) : Sat ρ σ H0' H' G := by
  obtain ⟨F, h1, h2, h3, h4⟩ := S.sl
  have lv : ∀ i a, F i a → H a ≠ none ∧ H0 a = none := fun i a ha => by
    obtain ⟨R, hR⟩ := h4 i a ha
    obtain ⟨v, _, r⟩ := h1 i R hR
    exact R.live r ha
  refine ⟨s1, S.len, fun a ha => ?_, F, fun i R hR => ?_, h2, h3, h4⟩
  · obtain ⟨e1, e2⟩ := hk a (.inl ha)
    exact ⟨by rw [e1]; exact (S.fr a ha).1, e2⟩
  · obtain ⟨v, e, r⟩ := h1 i R hR
    exact ⟨v, e, R.loc r s0 fun a ha => hk a (.inr (lv i a ha))⟩
/-- a new object, that stands from now on -/
theorem Sat.new (S : Sat ρ σ H0 H G) {p : Addr} {o : HO} (hp : H p = none) : Sat ρ σ (upd H0 p o) (upd H p o) G := by
  have h0 := S.same.free hp
  refine S.mv (same_upd h0) (fun b u e => ?_) fun a ha => ?_
  · by_cases hb : b = p
    · subst hb
      rw [upd_same] at e ⊢
      exact e
    · rw [upd_ne hb] at e ⊢
      exact S.same b u e
  · have hne : H a ≠ none ∧ H0 a = none := ha.elim (S.fr a) id
    have ap : a ≠ p := fun e => hne.1 (e ▸ hp)
    rw [upd_ne ap, upd_ne ap]
    exact ⟨rfl, hne.2⟩
theorem Sat.frame (S : Sat ρ σ H0 H G) (h : ∀ a, G' a → G a) : Sat ρ σ H0 H G' := by
  obtain ⟨F, h1, h2, h3, h4⟩ := S.sl
  exact ⟨S.same, S.len, fun a ha => S.fr a (h a ha), F, h1, h2, fun i a ha hg => h3 i a ha (h a hg), h4⟩
/-- a new object of one's own -/
theorem Sat.own (S : Sat ρ σ H0 H G) {p : Addr} {o : HO} (hp : H p = none) : Sat ρ σ H0 (upd H p o) fun a => G a ∨ a = p := by
  have h0 := S.same.free hp
  have S1 : Sat ρ σ H0 (upd H p o) G := by
    refine S.mv (Same.refl _) (S.same.trans (same_upd hp)) fun a ha => ?_
    have hne : H a ≠ none ∧ H0 a = none := ha.elim (S.fr a) id
    have ap : a ≠ p := fun e => hne.1 (e ▸ hp)
    rw [upd_ne ap]
    exact ⟨rfl, hne.2⟩
  obtain ⟨F, h1, h2, h3, h4⟩ := S1.sl
  obtain ⟨F', k1, k2, k3, k4⟩ := S.sl
  refine ⟨S1.same, S1.len, fun a ha => ?_, F', fun i R hR => ?_, k2, fun i a ha hg => ?_, k4⟩
  · rcases ha with ha | rfl
    · exact S1.fr a ha
    · exact ⟨by rw [upd_same]; exact Option.some_ne_none _, h0⟩
  · obtain ⟨v, e, r⟩ := k1 i R hR
    refine ⟨v, e, R.loc r (Same.refl _) fun a ha => ?_⟩
    have l := R.live r ha
    have ap : a ≠ p := fun e => l.1 (e ▸ hp)
    rw [upd_ne ap]
    exact ⟨rfl, l.2⟩
  · rcases hg with hg | rfl
    · exact k3 i a ha hg
    · obtain ⟨R, hR⟩ := k4 i a ha
      obtain ⟨v, _, r⟩ := k1 i R hR
      exact (R.live r ha).1 hp
/-- what was a temporary thing stands from now on -/
theorem Sat.freeze (S : Sat ρ σ H0 H fun a => G a ∨ G' a) {p : Addr} {o : HO} (h1 : H p = some o) (h2 : ¬ G p) (h3 : G' p) : Sat ρ σ (upd H0 p o) H G := by
  have h0 := (S.fr p (.inr h3)).2
  have S1 : Sat ρ σ H0 H G := S.frame fun _ => .inl
  obtain ⟨F, k1, k2, k3, k4⟩ := S.sl
  have hs : Same (upd H0 p o) H := fun b u e => by
    by_cases hb : b = p
    · subst hb
      rw [upd_same] at e
      rw [h1, e]
    · rw [upd_ne hb] at e
      exact S.same b u e
  refine ⟨hs, S.len, fun a ha => ?_, F, fun i R hR => ?_, k2, fun i a ha hg => k3 i a ha (.inl hg), k4⟩
  · have ap : a ≠ p := fun e => h2 (e ▸ ha)
    rw [upd_ne ap]
    exact S1.fr a ha
  · obtain ⟨v, e, r⟩ := k1 i R hR
    refine ⟨v, e, R.loc r (same_upd h0) fun a ha => ⟨rfl, ?_⟩⟩
    have ap : a ≠ p := fun e => k3 i a ha (.inr (e ▸ h3))
    rw [upd_ne ap]
    exact (R.live r ha).2
/-- a slot is filled -/
theorem Sat.set (S : Sat ρ σ H0 H fun a => G a ∨ G' a) {i : Nat} {R : Res} {v : V} (hr : R.holds H0 H v G') (hd : ∀ a, G' a → ¬ G a) : Sat (ρ.set i (some R)) (σ.set i (some v)) H0 H G := by
  obtain ⟨F, h1, h2, h3, h4⟩ := S.sl
  refine ⟨S.same, by rw [List.length_set, List.length_set, S.len], fun a ha => S.fr a (.inl ha), fun j => if j = i then (if i < ρ.length then G' else fun _ => False) else F j, fun j R' hR => ?_, fun j j' a ha ha' => ?_, fun j a ha => ?_, fun j a ha => ?_⟩
  · by_cases hj : j = i
    · subst hj
      have hlt : j < ρ.length := by
        rcases Nat.lt_or_ge j ρ.length with h | h
        · exact h
        · rw [List.getElem?_eq_none (by rw [List.length_set]; exact h)] at hR
          cases hR
      rw [List.getElem?_set_self hlt] at hR
      obtain rfl : R = R' := Option.some.inj (Option.some.inj hR)
      refine ⟨v, by rw [List.getElem?_set_self (by rw [S.len]; exact hlt)], ?_⟩
      simp only [hlt, if_true]
      exact hr
    · rw [List.getElem?_set_ne (fun e => hj e.symm)] at hR ⊢
      simp only [hj, if_false]
      exact h1 j R' hR
  · by_cases hj : j = i <;> by_cases hj' : j' = i
    · rw [hj, hj']
    · simp only [hj, hj', if_true, if_false] at ha ha'
      by_cases hl : i < ρ.length
      · simp only [hl, if_true] at ha
        exact absurd (.inr ha) (h3 j' a ha')
      · simp only [hl, if_false] at ha
    · simp only [hj, hj', if_true, if_false] at ha ha'
      by_cases hl : i < ρ.length
      · simp only [hl, if_true] at ha'
        exact absurd (.inr ha') (h3 j a ha)
      · simp only [hl, if_false] at ha'
    · simp only [hj, hj', if_false] at ha ha'
      exact h2 j j' a ha ha'
  · by_cases hj : j = i
    · simp only [hj, if_true] at ha
      by_cases hl : i < ρ.length
      · simp only [hl, if_true] at ha
        exact hd a ha
      · simp only [hl, if_false] at ha
    · simp only [hj, if_false] at ha
      exact fun hg => h3 j a ha (.inl hg)
  · by_cases hj : j = i
    · subst hj
      by_cases hl : j < ρ.length
      · exact ⟨R, List.getElem?_set_self hl⟩
      · simp only [if_true, hl, if_false] at ha
    · simp only [hj, if_false] at ha
      rw [List.getElem?_set_ne (fun e => hj e.symm)]
      exact h4 j a ha
/-- a slot is forgotten -/
theorem Sat.forget (S : Sat ρ σ H0 H G) (i : Nat) (x : Option V) : Sat (ρ.set i none) (σ.set i x) H0 H G := by
  obtain ⟨F, h1, h2, h3, h4⟩ := S.sl
  refine ⟨S.same, by rw [List.length_set, List.length_set, S.len], S.fr, fun j => if j = i then fun _ => False else F j, fun j R hR => ?_, fun j j' a ha ha' => ?_, fun j a ha => ?_, fun j a ha => ?_⟩
  · by_cases hj : j = i
    · subst hj
      rcases Nat.lt_or_ge j ρ.length with h | h
      · rw [List.getElem?_set_self h] at hR
        cases hR
      · rw [List.getElem?_eq_none (by rw [List.length_set]; exact h)] at hR
        cases hR
    · rw [List.getElem?_set_ne (fun e => hj e.symm)] at hR ⊢
      simp only [hj, if_false]
      exact h1 j R hR
  · by_cases hj : j = i
    · simp only [hj, if_true] at ha
    · by_cases hj' : j' = i
      · simp only [hj', if_true] at ha'
      · simp only [hj, hj', if_false] at ha ha'
        exact h2 j j' a ha ha'
  · by_cases hj : j = i
    · simp only [hj, if_true] at ha
    · simp only [hj, if_false] at ha
      exact h3 j a ha
  · by_cases hj : j = i
    · simp only [hj, if_true] at ha
    · simp only [hj, if_false] at ha
      rw [List.getElem?_set_ne (fun e => hj e.symm)]
      exact h4 j a ha
/-- .. the slot's value as it was -/
theorem set_self {α : Type} : ∀ {l : List α} {i : Nat} {x : α}, l[i]? = some x → l.set i x = l
  | [], _, _, _ => rfl
  | y :: l, 0, x, h => by
    obtain rfl : y = x := Option.some.inj h
    rfl
  | y :: l, i + 1, x, h => by
    show y :: l.set i x = y :: l
    rw [set_self (l := l) (i := i) h]
theorem Sat.drop (S : Sat ρ σ H0 H G) (i : Nat) : Sat (ρ.set i none) σ H0 H G := by
  by_cases h : i < σ.length
  · have := S.forget i σ[i]
    rwa [set_self (List.getElem?_eq_getElem h)] at this
  · rw [List.set_eq_of_length_le (by rw [← S.len]; omega)]
    exact S
/-- the thing of a slot taken out: a temporary thing -/
theorem Sat.take (S : Sat ρ σ H0 H G) {i : Nat} {R : Res} (h : ρ[i]? = some (some R)) : ∃ v f, σ[i]? = some (some v) ∧ R.holds H0 H v f ∧ (∀ a, f a → ¬ G a) ∧ Sat (ρ.set i none) σ H0 H fun a => G a ∨ f a := by
  obtain ⟨F, h1, h2, h3, h4⟩ := S.sl
  obtain ⟨v, e, r⟩ := h1 i R h
  refine ⟨v, F i, e, r, h3 i, ?_⟩
  have hi : i < ρ.length := by
    rcases Nat.lt_or_ge i ρ.length with z | z
    · exact z
    · rw [List.getElem?_eq_none z] at h
      cases h
  refine ⟨S.same, by rw [List.length_set, S.len], fun a ha => ha.elim (S.fr a) (R.live r), fun j => if j = i then fun _ => False else F j, fun j R' hR => ?_, fun j j' a ha ha' => ?_, fun j a ha hg => ?_, fun j a ha => ?_⟩
  · by_cases hj : j = i
    · subst hj
      rw [List.getElem?_set_self hi] at hR
      cases hR
    · rw [List.getElem?_set_ne (fun e => hj e.symm)] at hR
      simp only [hj, if_false]
      exact h1 j R' hR
  · by_cases hj : j = i
    · simp only [hj, if_true] at ha
    · by_cases hj' : j' = i
      · simp only [hj', if_true] at ha'
      · simp only [hj, hj', if_false] at ha ha'
        exact h2 j j' a ha ha'
  · by_cases hj : j = i
    · simp only [hj, if_true] at ha
    · simp only [hj, if_false] at ha
      rcases hg with hg | hg
      · exact h3 j a ha hg
      · exact hj (h2 j i a ha hg)
  · by_cases hj : j = i
    · simp only [hj, if_true] at ha
    · simp only [hj, if_false] at ha
      rw [List.getElem?_set_ne (fun e => hj e.symm)]
      exact h4 j a ha
/-- and put back, changed -/
theorem Sat.back (S : Sat (ρ.set i none) σ H0 H fun a => G a ∨ G' a) {R : Res} {v : V} (hv : σ[i]? = some (some v)) (hr : R.holds H0 H v G') (hd : ∀ a, G' a → ¬ G a) : Sat (ρ.set i (some R)) σ H0 H G := by
  have := S.set (i := i) hr hd
  rwa [List.set_set, set_self hv] at this
/-- a temporary thing changes -/
theorem Sat.mut (S : Sat ρ σ H0 H fun a => G a ∨ G' a) (hk : ∀ a, ¬ G' a → H' a = H a) (hG : ∀ a, G' a → H' a ≠ none) : Sat ρ σ H0 H' fun a => G a ∨ G' a := by
  obtain ⟨F, h1, h2, h3, h4⟩ := S.sl
  have frz : ∀ a, H0 a ≠ none → ¬ G' a := fun a ha hg => ha (S.fr a (.inr hg)).2
  refine ⟨fun b u e => ?_, S.len, fun a ha => ?_, F, fun i R hR => ?_, h2, h3, h4⟩
  · rw [hk b (frz b (by rw [e]; exact Option.some_ne_none _))]
    exact S.same b u e
  · refine ⟨?_, (S.fr a ha).2⟩
    by_cases hg : G' a
    · exact hG a hg
    · rw [hk a hg]
      exact (S.fr a ha).1
  · obtain ⟨v, e, r⟩ := h1 i R hR
    exact ⟨v, e, R.loc r (Same.refl _) fun a ha => ⟨hk a fun hg => h3 i a ha (.inr hg), (R.live r ha).2⟩⟩
end
end ML

namespace ML
open PySem PySem.Spec PyProof.Rows L2 KS GL LB
/-! ### data that stand -/
mutual
inductive Da (K : PySem.W.Frag) (H : Hp) : V → PyData → Prop
  | non : Da K H .non .none
  | bl (b : Bool) : Da K H (.bl b) (.bool b)
  | int (i : Int) : Da K H (.int i) (.int i)
  | str (x : Str) : Da K H (.str x) (.str x)
  | lst {a : Addr} {xs : List V} {ds : List PyData} : H a = some (.lst xs) → DaAll K H xs ds → Da K H (.ref a) (.list ds)
  | tup {a : Addr} {xs : List V} {ds : List PyData} : SqT K H a xs → DaAll K H xs ds → Da K H (.ref a) (.tuple ds)
  | dct {a : Addr} {kvs : List (Str × V)} {ds : List PyData} : H a = some (.dK (kvs.map fun p => (Sum.inr p.1, p.2))) → DaAll K H (kvs.map (·.2)) ds → Da K H (.ref a) (.dict ((kvs.map fun p => PyData.str p.1).zip ds))
inductive DaAll (K : PySem.W.Frag) (H : Hp) : List V → List PyData → Prop
  | nil : DaAll K H [] []
  | cons {v : V} {vs : List V} {d : PyData} {ds : List PyData} : Da K H v d → DaAll K H vs ds → DaAll K H (v :: vs) (d :: ds)
end
theorem sameT {K : PySem.W.Frag} {H H' : Hp} {a : Addr} {xs : List V} (e : Same H H') (h : SqT K H a xs) : SqT K H' a xs := by
  rcases h with (h | ⟨o, h⟩) | h
  · exact .inl (.inl (e _ _ h))
  · exact .inl (.inr ⟨o, e _ _ h⟩)
  · exact .inr h
section
variable {K : PySem.W.Frag} {H H' : Hp}
mutual
theorem Da.mono' (e : Same H H') : ∀ {d : PyData} {v : V}, Da K H v d → Da K H' v d
  | _, _, .non => .non
  | _, _, .bl b => .bl b
  | _, _, .int i => .int i
  | _, _, .str x => .str x
  | _, _, .lst h1 h2 => .lst (e _ _ h1) (DaAll.mono' e h2)
  | _, _, .tup h1 h2 => .tup (sameT e h1) (DaAll.mono' e h2)
  | _, _, .dct h1 h2 => .dct (e _ _ h1) (DaAll.mono' e h2)
theorem DaAll.mono' (e : Same H H') : ∀ {ds : List PyData} {vs : List V}, DaAll K H vs ds → DaAll K H' vs ds
  | _, _, .nil => .nil
  | _, _, .cons h1 h2 => .cons (Da.mono' e h1) (DaAll.mono' e h2)
end
theorem Da.mono (e : Same H H') (d : PyData) (v : V) (h : Da K H v d) : Da K H' v d := Da.mono' e h
theorem DaAll.mono (e : Same H H') (ds : List PyData) (vs : List V) (h : DaAll K H vs ds) : DaAll K H' vs ds := DaAll.mono' e h
mutual
theorem Da.dp' : ∀ {d : PyData} {v : V}, Da K H v d → d.hasDict = false → Dp K H v d
  | _, _, .non, _ => .non
  | _, _, .bl b, _ => .bl b
  | _, _, .int i, _ => .int i
  | _, _, .str x, _ => .str x
  | _, _, .lst h1 h2, n => .lst (.inl (.inl h1)) (DaAll.dp' h2 (by rw [PyData.hasDict] at n; exact n))
  | _, _, .tup h1 h2, n => .tup h1 (DaAll.dp' h2 (by rw [PyData.hasDict] at n; exact n))
  | _, _, .dct h1 h2, n => by rw [PyData.hasDict] at n; cases n
theorem DaAll.dp' : ∀ {ds : List PyData} {vs : List V}, DaAll K H vs ds → PyData.hasDictAll ds = false → DpAll K H vs ds
  | _, _, .nil, _ => .nil
  | _, _, .cons h1 h2, n => by
    rw [PyData.hasDictAll, Bool.or_eq_false_iff] at n
    exact .cons (Da.dp' h1 n.1) (DaAll.dp' h2 n.2)
end
theorem shp_noDict {d : PyData} (h : SeqAt.shaped d = true) : d.hasDict = false := by
  unfold SeqAt.shaped at h
  rw [Bool.and_eq_true] at h
  exact PyData.hasDict_of_canLay d h.1
mutual
theorem alike_noDict : ∀ d : PyData, W.alike d d = true → d.hasDict = false
  | .none, _ => by rw [PyData.hasDict]
  | .bool _, _ => by rw [PyData.hasDict]
  | .int _, _ => by rw [PyData.hasDict]
  | .str _, _ => by rw [PyData.hasDict]
  | .list ds, h => by
    rw [PyData.hasDict]
    rw [W.alike] at h
    exact alike_noDictAll ds h
  | .tuple ds, h => by
    rw [PyData.hasDict]
    rw [W.alike] at h
    exact alike_noDictAll ds h
  | .dict _, h => by simp [W.alike] at h
theorem alike_noDictAll : ∀ ds : List PyData, W.alikeAll ds ds = true → PyData.hasDictAll ds = false
  | [], _ => by rw [PyData.hasDictAll]
  | d :: ds, h => by
    rw [W.alikeAll, Bool.and_eq_true] at h
    rw [PyData.hasDictAll, alike_noDict d h.1, alike_noDictAll ds h.2]
    rfl
end
theorem Da.dp (d : PyData) (v : V) (h : Da K H v d) (n : d.hasDict = false) : Dp K H v d := Da.dp' h n
theorem DaAll.dp (ds : List PyData) (vs : List V) (h : DaAll K H vs ds) (n : PyData.hasDictAll ds = false) : DpAll K H vs ds := DaAll.dp' h n
theorem DaAll.len : ∀ {ds : List PyData} {vs : List V}, DaAll K H vs ds → vs.length = ds.length
  | [], _, h => by cases h; rfl
  | d :: ds, _, h => by
    cases h with
    | cons h1 h2 => rw [List.length_cons, List.length_cons, DaAll.len h2]
theorem DaAll.get : ∀ {ds : List PyData} {vs : List V} {i : Nat} {d : PyData}, DaAll K H vs ds → ds[i]? = some d → ∃ v, vs[i]? = some v ∧ Da K H v d
  | [], _, _, _, _, e => by cases e
  | _ :: ds, _, 0, d, .cons h1 _, e => ⟨_, rfl, by cases e; exact h1⟩
  | _ :: ds, _, i + 1, d, .cons _ h2, e => DaAll.get (i := i) h2 e
theorem DaAll.get' : ∀ {ds : List PyData} {vs : List V} {i : Nat} {v : V}, DaAll K H vs ds → vs[i]? = some v → ∃ d, ds[i]? = some d ∧ Da K H v d
  | [], _, _, _, .nil, e => by cases e
  | _ :: ds, _, 0, d, .cons h1 _, e => ⟨_, rfl, by cases e; exact h1⟩
  | _ :: ds, _, i + 1, d, .cons _ h2, e => DaAll.get' (i := i) h2 e
theorem DaAll.append : ∀ {ds es : List PyData} {vs ws : List V}, DaAll K H vs ds → DaAll K H ws es → DaAll K H (vs ++ ws) (ds ++ es)
  | [], _, _, _, .nil, h => h
  | _ :: _, _, _, _, .cons h1 h2, h => .cons h1 (DaAll.append h2 h)
theorem DaAll.set : ∀ {ds : List PyData} {vs : List V} {i : Nat} {v : V} {d : PyData}, DaAll K H vs ds → Da K H v d → DaAll K H (vs.set i v) (ds.set i d)
  | [], _, _, _, _, .nil, _ => .nil
  | _ :: _, _, 0, _, _, .cons _ h2, h => .cons h h2
  | _ :: _, _, i + 1, _, _, .cons h1 h2, h => .cons h1 (DaAll.set h2 h)
theorem DaAll.dropLast : ∀ {ds : List PyData} {vs : List V}, DaAll K H vs ds → DaAll K H vs.dropLast ds.dropLast
  | [], _, .nil => .nil
  | [_], [_], .cons _ .nil => .nil
  | _ :: _ :: _, _, .cons h1 (.cons h2 h3) => .cons h1 (DaAll.dropLast (.cons h2 h3))
theorem DaAll.take : ∀ {ds : List PyData} {vs : List V} (n : Nat), DaAll K H vs ds → DaAll K H (vs.take n) (ds.take n)
  | [], _, _, .nil => by simp; exact .nil
  | _ :: _, _, 0, .cons _ _ => .nil
  | _ :: _, _, n + 1, .cons h1 h2 => .cons h1 (DaAll.take n h2)
theorem DaAll.drop : ∀ {ds : List PyData} {vs : List V} (n : Nat), DaAll K H vs ds → DaAll K H (vs.drop n) (ds.drop n)
  | [], _, _, .nil => by simp; exact .nil
  | _ :: _, _, 0, .cons h1 h2 => .cons h1 h2
  | _ :: _, _, n + 1, .cons h1 h2 => DaAll.drop n h2
theorem DaAll.eraseIdx : ∀ {ds : List PyData} {vs : List V} (n : Nat), DaAll K H vs ds → DaAll K H (vs.eraseIdx n) (ds.eraseIdx n)
  | [], _, _, .nil => .nil
  | _ :: _, _, 0, .cons h1 h2 => h2
  | _ :: _, _, n + 1, .cons h1 h2 => .cons h1 (DaAll.eraseIdx n h2)
theorem DaAll.reverse : ∀ {ds : List PyData} {vs : List V}, DaAll K H vs ds → DaAll K H vs.reverse ds.reverse
  | [], _, .nil => .nil
  | _ :: _, _, .cons h1 h2 => by rw [List.reverse_cons, List.reverse_cons]; exact DaAll.append (DaAll.reverse h2) (.cons h1 .nil)
theorem DaAll.ints : ∀ (ns : List Int), DaAll K H (ns.map V.int) (ns.map PyData.int)
  | [] => .nil
  | n :: ns => .cons (.int n) (DaAll.ints ns)
theorem DaAll.toInts : ∀ {ns : List Int} {vs : List V}, DaAll K H vs (ns.map PyData.int) → vs = ns.map V.int
  | [], _, .nil => rfl
  | n :: ns, _, .cons h1 h2 => by
    cases h1
    rw [List.map_cons, ← DaAll.toInts h2]
theorem DaAll.toStrs : ∀ {ns : List Str} {vs : List V}, DaAll K H vs (ns.map PyData.str) → vs = ns.map V.str
  | [], _, .nil => rfl
  | n :: ns, _, .cons h1 h2 => by
    cases h1
    rw [List.map_cons, ← DaAll.toStrs h2]
theorem DaAll.toBools : ∀ {ns : List Bool} {vs : List V}, DaAll K H vs (ns.map PyData.bool) → vs = ns.map V.bl
  | [], _, .nil => rfl
  | n :: ns, _, .cons h1 h2 => by
    cases h1
    rw [List.map_cons, ← DaAll.toBools h2]
theorem DaAll.ofStrs : ∀ (ns : List Str), DaAll K H (ns.map V.str) (ns.map PyData.str)
  | [] => .nil
  | n :: ns => .cons (.str n) (DaAll.ofStrs ns)
end
def datP (K : PySem.W.Frag) (d : PyData) : Pd := ⟨fun H v => Da K H v d, fun {_ _ v} h s => Da.mono s d v h⟩
/-- a datum that stands -/
abbrev dat (K : PySem.W.Frag) (d : PyData) : Res := pu (datP K d)
/-- a list of one's own, its items data -/
def lo (K : PySem.W.Frag) (ds : List PyData) : Res := ⟨fun H0 H v f => ∃ a xs, v = .ref a ∧ (∀ b, f b ↔ b = a) ∧ H0 a = none ∧ H a = some (.lst xs) ∧ DaAll K H0 xs ds,
  fun {H0 H0' H H' v f} ⟨a, xs, e, hf, h1, h2, h3⟩ s hk => ⟨a, xs, e, hf, (hk a ((hf a).mpr rfl)).2, by rw [(hk a ((hf a).mpr rfl)).1]; exact h2, DaAll.mono s ds xs h3⟩,
  fun {H0 H v f b} ⟨a, xs, e, hf, h1, h2, h3⟩ hb => by
    obtain rfl := (hf b).mp hb
    exact ⟨by rw [h2]; exact Option.some_ne_none _, h1⟩⟩
/-! ### expressions -/
section
variable {K : PySem.W.Frag} {ρ : MS} {Q : Rt → MS → Prop} {Qb : Bool → MS → Prop} {ta tb te tc : TE} {t u : TT}
theorem ev_var {i : Nat} {P : Pd} (h : ρ[i]? = some (some (pu P))) (q : Q (.val (pu P)) ρ) : ev (tVar i) ρ Q := by
  intro σ H0 H G k S hk
  obtain ⟨v, f, e, r, d⟩ := S.get h
  exact ⟨v, e, hk _ _ _ _ _ _ q ⟨Ext.refl, r, d, S.frame fun a ha => ha.resolve_right (r.2 a)⟩⟩
/-- a thing of its own, by its slot -/
theorem ev_at {i : Nat} {R : Res} (h : ρ[i]? = some (some R)) (q : Q (.at i) ρ) : ev (tVar i) ρ Q := by
  intro σ H0 H G k S hk
  obtain ⟨v, f, e, r, d⟩ := S.get h
  exact ⟨v, e, hk _ _ _ (fun _ => False) _ _ q ⟨Ext.refl, ⟨e, fun _ h => h⟩, fun _ h => h.elim, S.frame fun a ha => ha.resolve_right id⟩⟩
theorem post_pure {G : FP} {σ : L2.St} {H0 H : Hp} {P : Pd} {v : V} (S : Sat ρ σ H0 H G) (h : P.p H0 v) : Post G σ H0 H (.val (pu P)) ρ v (fun _ => False) H0 H := ⟨Ext.refl, ⟨h, fun _ h => h⟩, fun _ h => h.elim, S.frame fun a ha => ha.resolve_right id⟩
theorem ev_int {n : Int} (q : Q (.val (dat K (.int n))) ρ) : ev (tC (.int n)) ρ Q := fun σ H0 H G k S hk => hk _ _ _ _ _ _ q (post_pure S (.int n))
theorem ev_str {z : Str} (q : Q (.val (dat K (.str z))) ρ) : ev (tC (.str z)) ρ Q := fun σ H0 H G k S hk => hk _ _ _ _ _ _ q (post_pure S (.str z))
theorem ev_bl {b : Bool} (q : Q (.val (dat K (.bool b))) ρ) : ev (tC (.bl b)) ρ Q := fun σ H0 H G k S hk => hk _ _ _ _ _ _ q (post_pure S (.bl b))
theorem ev_non (q : Q (.val (dat K .none)) ρ) : ev (tC .non) ρ Q := fun σ H0 H G k S hk => hk _ _ _ _ _ _ q (post_pure S .non)
/-- a value that is known for good (a constant of the module) -/
theorem ev_c {v : V} {P : Pd} (h : ∀ H, P.p H v) (q : Q (.val (pu P)) ρ) : ev (tC v) ρ Q := fun σ H0 H G k S hk => hk _ _ _ _ _ _ q (post_pure S (h _))
theorem ev_mono {Q' : Rt → MS → Prop} (h : ev te ρ Q) (hq : ∀ r ρ', Q r ρ' → Q' r ρ') : ev te ρ Q' := fun σ H0 H G k S hk => h σ H0 H G k S fun r ρ' v f H0' H' q => hk r ρ' v f H0' H' (hq r ρ' q)
/-- a two-place operation on what is known -/
def opR (r : R2) (r1 r2 : Rt) (ρ : MS) (Q : Rt → MS → Prop) : Prop := ∀ (σ : L2.St) (H0 H : Hp) (G : FP) (v1 v2 : V) (f1 f2 : FP) (k : VK), Sat ρ σ H0 H (fun a => G a ∨ f1 a ∨ f2 a) → RtH r1 σ H0 H v1 f1 → RtH r2 σ H0 H v2 f2 → (∀ a, f1 a → ¬ G a) → (∀ a, f2 a → ¬ G a) → (∀ a, f1 a → ¬ f2 a) →
  (∀ r ρ' v f H0' H', Q r ρ' → Post G σ H0 H r ρ' v f H0' H' → k v H') → r v1 v2 H k
theorem ev_op {r : R2} (h : ev ta ρ fun r1 ρ1 => ev tb ρ1 fun r2 ρ2 => opR r r1 r2 ρ2 Q) : ev (tOp r ta tb) ρ Q := by
  intro σ H0 H G k S hk
  refine h σ H0 H G _ S fun r1 ρ1 v1 f1 H1 H1' h1 p1 => ?_
  refine h1 σ H1 H1' (fun a => G a ∨ f1 a) _ p1.sat fun r2 ρ2 v2 f2 H2 H2' h2 p2 => ?_
  have rt1 : RtH r1 σ H2 H2' v1 f1 := p1.rt.loc p2.ext.s0 fun a ha => ⟨p2.ext.fr a (.inr ha), (p2.sat.fr a (.inl (.inr ha))).2⟩
  refine h2 σ H2 H2' G v1 v2 f1 f2 _ (p2.sat.frame fun a ha => ?_) rt1 p2.rt p1.dis (fun a h1 h2 => p2.dis a h1 (.inl h2)) (fun a h1 h2 => p2.dis a h2 (.inr h1)) fun r ρ' v f H3 H3' h3 p3 => hk r ρ' v f H3 H3' h3 ⟨(p1.ext.trans (p2.ext.weak fun _ => .inl)).trans p3.ext, p3.rt, p3.dis, p3.sat⟩
  rcases ha with h | h | h
  · exact .inl (.inl h)
  · exact .inl (.inr h)
  · exact .inr h
/-- a one-place operation on what is known -/
def unR (r : V → Hp → VK → Prop) (r1 : Rt) (ρ : MS) (Q : Rt → MS → Prop) : Prop := ∀ (σ : L2.St) (H0 H : Hp) (G : FP) (v1 : V) (f1 : FP) (k : VK), Sat ρ σ H0 H (fun a => G a ∨ f1 a) → RtH r1 σ H0 H v1 f1 → (∀ a, f1 a → ¬ G a) →
  (∀ r ρ' v f H0' H', Q r ρ' → Post G σ H0 H r ρ' v f H0' H' → k v H') → r v1 H k
theorem ev_un {r : V → Hp → VK → Prop} (h : ev ta ρ fun r1 ρ1 => unR r r1 ρ1 Q) : ev (tUn r ta) ρ Q := by
  intro σ H0 H G k S hk
  refine h σ H0 H G _ S fun r1 ρ1 v1 f1 H1 H1' h1 p1 => ?_
  exact h1 σ H1 H1' G v1 f1 _ p1.sat p1.rt p1.dis fun r ρ' v f H3 H3' h3 p3 => hk r ρ' v f H3 H3' h3 ⟨p1.ext.trans p3.ext, p3.rt, p3.dis, p3.sat⟩
/-- reads as a datum (a list of one's own, too) -/
inductive rd (K : PySem.W.Frag) (ρ : MS) : Rt → PyData → Prop
  | val {d : PyData} : rd K ρ (.val (dat K d)) d
  | own {ds : List PyData} : rd K ρ (.val (lo K ds)) (.list ds)
  | slot {i : Nat} {d : PyData} : ρ[i]? = some (some (dat K d)) → rd K ρ (.at i) d
  | slotL {i : Nat} {ds : List PyData} : ρ[i]? = some (some (lo K ds)) → rd K ρ (.at i) (.list ds)
theorem rd.da {r : Rt} {d : PyData} {σ : L2.St} {H0 H : Hp} {G : FP} {v : V} {f : FP} (h : rd K ρ r d) (S : Sat ρ σ H0 H G) (hr : RtH r σ H0 H v f) : Da K H v d := by
  have ofL : ∀ {ds : List PyData} {f : FP}, (lo K ds).holds H0 H v f → Da K H v (.list ds) := fun {ds f} ⟨a, xs, e, _, _, h2, h3⟩ => e ▸ .lst h2 (DaAll.mono S.same _ _ h3)
  cases h with
  | val => exact Da.mono S.same _ _ hr.1
  | own => exact ofL hr
  | slot h1 =>
    obtain ⟨w, f', e, q, _⟩ := S.get h1
    obtain rfl : w = v := Option.some.inj (Option.some.inj (e.symm.trans hr.1))
    exact Da.mono S.same _ _ q.1
  | slotL h1 =>
    obtain ⟨w, f', e, q, _⟩ := S.get h1
    obtain rfl : w = v := Option.some.inj (Option.some.inj (e.symm.trans hr.1))
    exact ofL q
/-- the items of a list or tuple that is read: they stand -/
theorem rd.list {r : Rt} {ds : List PyData} {σ : L2.St} {H0 H : Hp} {G : FP} {v : V} {f : FP} (h : rd K ρ r (.list ds)) (S : Sat ρ σ H0 H G) (hr : RtH r σ H0 H v f) : ∃ a xs, v = .ref a ∧ H a = some (.lst xs) ∧ DaAll K H0 xs ds := by
  have ofL : ∀ {f : FP}, (lo K ds).holds H0 H v f → ∃ a xs, v = .ref a ∧ H a = some (.lst xs) ∧ DaAll K H0 xs ds := fun {f} ⟨a, xs, e, _, _, h2, h3⟩ => ⟨a, xs, e, h2, h3⟩
  have ofD : Da K H0 v (.list ds) → ∃ a xs, v = .ref a ∧ H a = some (.lst xs) ∧ DaAll K H0 xs ds := fun h => by
    cases h with
    | lst h1 h2 => exact ⟨_, _, rfl, S.same _ _ h1, h2⟩
  cases h with
  | val => exact ofD hr.1
  | own => exact ofL hr
  | slot h1 =>
    obtain ⟨w, f', e, q, _⟩ := S.get h1
    obtain rfl : w = v := Option.some.inj (Option.some.inj (e.symm.trans hr.1))
    exact ofD q.1
  | slotL h1 =>
    obtain ⟨w, f', e, q, _⟩ := S.get h1
    obtain rfl : w = v := Option.some.inj (Option.some.inj (e.symm.trans hr.1))
    exact ofL q
theorem rd.tup {r : Rt} {ds : List PyData} {σ : L2.St} {H0 H : Hp} {G : FP} {v : V} {f : FP} (h : rd K ρ r (.tuple ds)) (S : Sat ρ σ H0 H G) (hr : RtH r σ H0 H v f) : ∃ a xs, v = .ref a ∧ SqT K H0 a xs ∧ DaAll K H0 xs ds := by
  have ofD : Da K H0 v (.tuple ds) → ∃ a xs, v = .ref a ∧ SqT K H0 a xs ∧ DaAll K H0 xs ds := fun h => by
    cases h with
    | tup h1 h2 => exact ⟨_, _, rfl, h1, h2⟩
  cases h with
  | val => exact ofD hr.1
  | slot h1 =>
    obtain ⟨w, f', e, q, _⟩ := S.get h1
    obtain rfl : w = v := Option.some.inj (Option.some.inj (e.symm.trans hr.1))
    exact ofD q.1
theorem rd.int {r : Rt} {n : Int} {σ : L2.St} {H0 H : Hp} {G : FP} {v : V} {f : FP} (h : rd K ρ r (.int n)) (S : Sat ρ σ H0 H G) (hr : RtH r σ H0 H v f) : v = .int n := by
  have := h.da S hr
  cases this
  rfl
theorem rd.str {r : Rt} {n : Str} {σ : L2.St} {H0 H : Hp} {G : FP} {v : V} {f : FP} (h : rd K ρ r (.str n)) (S : Sat ρ σ H0 H G) (hr : RtH r σ H0 H v f) : v = .str n := by
  have := h.da S hr
  cases this
  rfl
theorem rd.bool {r : Rt} {n : Bool} {σ : L2.St} {H0 H : Hp} {G : FP} {v : V} {f : FP} (h : rd K ρ r (.bool n)) (S : Sat ρ σ H0 H G) (hr : RtH r σ H0 H v f) : v = .bl n := by
  have := h.da S hr
  cases this
  rfl
/-- a datum without a place -/
inductive Sc : V → PyData → Prop
  | non : Sc .non .none
  | bl (b : Bool) : Sc (.bl b) (.bool b)
  | int (i : Int) : Sc (.int i) (.int i)
  | str (x : Str) : Sc (.str x) (.str x)
theorem Sc.da {v : V} {d : PyData} {H : Hp} (h : Sc v d) : Da K H v d := by
  cases h
  · exact .non
  · exact .bl _
  · exact .int _
  · exact .str _
theorem post_sc {G G' : FP} {σ : L2.St} {H0 H : Hp} {v : V} {d : PyData} (S : Sat ρ σ H0 H G') (hG : ∀ a, G a → G' a) (h : Sc v d) : Post G σ H0 H (.val (dat K d)) ρ v (fun _ => False) H0 H := post_pure (S.frame hG) h.da
/-- .. that reads and gives back a datum without a place -/
theorem op_sc {r : R2} {r1 r2 : Rt} {d1 d2 d3 : PyData} (h1 : rd K ρ r1 d1) (h2 : rd K ρ r2 d2) (hr : ∀ (H : Hp) (v1 v2 : V) (k : VK), Da K H v1 d1 → Da K H v2 d2 → (∀ v, Sc v d3 → k v H) → r v1 v2 H k) (q : Q (.val (dat K d3)) ρ) : opR r r1 r2 ρ Q := by
  intro σ H0 H G v1 v2 f1 f2 k S e1 e2 _ _ _ hk
  exact hr H v1 v2 k (h1.da S e1) (h2.da S e2) fun v hv => hk _ _ _ _ _ _ q (post_sc S (fun _ => .inl) hv)
theorem un_sc {r : V → Hp → VK → Prop} {r1 : Rt} {d1 d3 : PyData} (h1 : rd K ρ r1 d1) (hr : ∀ (H : Hp) (v1 : V) (k : VK), Da K H v1 d1 → (∀ v, Sc v d3 → k v H) → r v1 H k) (q : Q (.val (dat K d3)) ρ) : unR r r1 ρ Q := by
  intro σ H0 H G v1 f1 k S e1 _ hk
  exact hr H v1 k (h1.da S e1) fun v hv => hk _ _ _ _ _ _ q (post_sc S (fun _ => .inl) hv)
/-! ### whole numbers -/
section
variable {r1 r2 : Rt} {i j : Int}
theorem da_int {H : Hp} {v : V} {i : Int} (h : Da K H v (.int i)) : v = .int i := by
  cases h
  rfl
theorem op_i0 {g : Int → Int → V} {d : PyData} (h1 : rd K ρ r1 (.int i)) (h2 : rd K ρ r2 (.int j)) (hd : Sc (g i j) d) (q : Q (.val (dat K d)) ρ) : opR (rI0 g) r1 r2 ρ Q :=
  op_sc h1 h2 (fun H v1 v2 k e1 e2 hk => ⟨i, j, da_int e1, da_int e2, hk _ hd⟩) q
theorem op_iC {C : Int → Int → Prop} {g : Int → Int → V} {d : PyData} (h1 : rd K ρ r1 (.int i)) (h2 : rd K ρ r2 (.int j)) (hc : C i j) (hd : Sc (g i j) d) (q : Q (.val (dat K d)) ρ) : opR (rI C g) r1 r2 ρ Q :=
  op_sc h1 h2 (fun H v1 v2 k e1 e2 hk => ⟨i, j, da_int e1, da_int e2, hc, hk _ hd⟩) q
theorem un_i {g : Int → V} {d : PyData} (h1 : rd K ρ r1 (.int i)) (hd : Sc (g i) d) (q : Q (.val (dat K d)) ρ) : unR (rU g) r1 ρ Q :=
  un_sc h1 (fun H v1 k e1 hk => ⟨i, da_int e1, hk _ hd⟩) q
theorem op_eqI (h1 : rd K ρ r1 (.int i)) (h2 : rd K ρ r2 (.int j)) (q : Q (.val (dat K (.bool (decide (i = j))))) ρ) : opR rEq r1 r2 ρ Q :=
  op_sc h1 h2 (fun H v1 v2 k e1 e2 hk => by
    rw [da_int e1, da_int e2]
    refine ⟨rfl, ?_⟩
    have : decide (V.int i = V.int j) = decide (i = j) := by simp
    rw [this]
    exact hk _ (.bl _)) q
theorem op_neI (h1 : rd K ρ r1 (.int i)) (h2 : rd K ρ r2 (.int j)) (q : Q (.val (dat K (.bool (!decide (i = j))))) ρ) : opR rNe r1 r2 ρ Q :=
  op_sc h1 h2 (fun H v1 v2 k e1 e2 hk => by
    rw [da_int e1, da_int e2]
    refine ⟨rfl, ?_⟩
    have : decide (V.int i = V.int j) = decide (i = j) := by simp
    rw [this]
    exact hk _ (.bl _)) q
theorem op_eqS {x y : Str} (h1 : rd K ρ r1 (.str x)) (h2 : rd K ρ r2 (.str y)) (q : Q (.val (dat K (.bool (decide (x = y))))) ρ) : opR rEq r1 r2 ρ Q :=
  op_sc h1 h2 (fun H v1 v2 k e1 e2 hk => by
    cases e1
    cases e2
    refine ⟨rfl, ?_⟩
    have : decide (V.str x = V.str y) = decide (x = y) := by simp
    rw [this]
    exact hk _ (.bl _)) q
theorem op_neS {x y : Str} (h1 : rd K ρ r1 (.str x)) (h2 : rd K ρ r2 (.str y)) (q : Q (.val (dat K (.bool (!decide (x = y))))) ρ) : opR rNe r1 r2 ρ Q :=
  op_sc h1 h2 (fun H v1 v2 k e1 e2 hk => by
    cases e1
    cases e2
    refine ⟨rfl, ?_⟩
    have : decide (V.str x = V.str y) = decide (x = y) := by simp
    rw [this]
    exact hk _ (.bl _)) q
end
/-! ### data compared, items -/
theorem op_deq {r1 r2 : Rt} {d e : PyData} (h1 : rd K ρ r1 d) (h2 : rd K ρ r2 e) (s1 : SeqAt.shaped d = true) (s2 : SeqAt.shaped e = true) (q : Q (.val (dat K (.bool (PyData.eqv d e)))) ρ) : opR (rEqD K) r1 r2 ρ Q :=
  op_sc h1 h2 (fun H v1 v2 k e1 e2 hk => ⟨d, e, Da.dp _ _ e1 (shp_noDict s1), Da.dp _ _ e2 (shp_noDict s2), s1, s2, hk _ (.bl _)⟩) q
theorem op_dne {r1 r2 : Rt} {d e : PyData} (h1 : rd K ρ r1 d) (h2 : rd K ρ r2 e) (s1 : SeqAt.shaped d = true) (s2 : SeqAt.shaped e = true) (q : Q (.val (dat K (.bool (!PyData.eqv d e)))) ρ) : opR (rNeD K) r1 r2 ρ Q :=
  op_sc h1 h2 (fun H v1 v2 k e1 e2 hk => ⟨d, e, Da.dp _ _ e1 (shp_noDict s1), Da.dp _ _ e2 (shp_noDict s2), s1, s2, hk _ (.bl _)⟩) q
theorem atI_da {H : Hp} {ds : List PyData} {vs : List V} {i : Int} {d : PyData} (h : DaAll K H vs ds) (e : atI ds i = some d) : ∃ v, atI vs i = some v ∧ Da K H v d := by
  unfold atI at e ⊢
  rw [h.len]
  cases hn : ixN ds.length i with
  | none => rw [hn] at e; cases e
  | some j =>
    rw [hn] at e
    exact h.get e
theorem op_ixL {r1 r2 : Rt} {ds : List PyData} {i : Int} {d : PyData} (h1 : rd K ρ r1 (.list ds)) (h2 : rd K ρ r2 (.int i)) (hd : atI ds i = some d) (q : Q (.val (dat K d)) ρ) : opR (rIxL K) r1 r2 ρ Q := by
  intro σ H0 H G v1 v2 f1 f2 k S e1 e2 _ _ _ hk
  obtain ⟨a, xs, rfl, ha, hx⟩ := h1.list S e1
  obtain rfl := h2.int S e2
  obtain ⟨v, hv, hd'⟩ := atI_da hx hd
  exact ⟨a, xs, i, v, rfl, rfl, .inl (.inl ha), hv, hk _ _ _ _ _ _ q (post_pure (S.frame fun _ => .inl) hd')⟩
theorem op_ixT {r1 r2 : Rt} {ds : List PyData} {i : Int} {d : PyData} (h1 : rd K ρ r1 (.tuple ds)) (h2 : rd K ρ r2 (.int i)) (hd : atI ds i = some d) (q : Q (.val (dat K d)) ρ) : opR (rIxT K) r1 r2 ρ Q := by
  intro σ H0 H G v1 v2 f1 f2 k S e1 e2 _ _ _ hk
  obtain ⟨a, xs, rfl, ha, hx⟩ := h1.tup S e1
  obtain rfl := h2.int S e2
  obtain ⟨v, hv, hd'⟩ := atI_da hx hd
  exact ⟨a, xs, i, v, rfl, rfl, sameT S.same ha, hv, hk _ _ _ _ _ _ q (post_pure (S.frame fun _ => .inl) hd')⟩
theorem op_ixQL {r1 r2 : Rt} {ds : List PyData} {i : Int} {d : PyData} (h1 : rd K ρ r1 (.list ds)) (h2 : rd K ρ r2 (.int i)) (hd : atI ds i = some d) (q : Q (.val (dat K d)) ρ) : opR (rIx K) r1 r2 ρ Q :=
  fun σ H0 H G v1 v2 f1 f2 k S e1 e2 d1 d2 d3 hk => .inl (op_ixL h1 h2 hd q σ H0 H G v1 v2 f1 f2 k S e1 e2 d1 d2 d3 hk)
theorem op_ixQT {r1 r2 : Rt} {ds : List PyData} {i : Int} {d : PyData} (h1 : rd K ρ r1 (.tuple ds)) (h2 : rd K ρ r2 (.int i)) (hd : atI ds i = some d) (q : Q (.val (dat K d)) ρ) : opR (rIx K) r1 r2 ρ Q :=
  fun σ H0 H G v1 v2 f1 f2 k S e1 e2 d1 d2 d3 hk => .inr (.inl (op_ixT h1 h2 hd q σ H0 H G v1 v2 f1 f2 k S e1 e2 d1 d2 d3 hk))
end
end ML

/-! Dicts with int keys as functions; a dict comprehension over any walk; d != {}. -/
namespace LB
open PySem PySem.Spec PyProof.Rows L2 KS GL
/-- a dict of int keys is the function f -/
structure DM (kvs : List (Key × V)) (f : Int → Option V) : Prop where
  val : ∀ s, valV kvs (Sum.inl s : Key) = f s
  nd : (kvs.map (·.1)).Nodup
  isI : ∀ p ∈ kvs, ∃ s : Int, p.1 = Sum.inl s
theorem DM.nil : DM [] (fun _ => none) := ⟨fun _ => rfl, List.nodup_nil, fun _ h => (nomatch h)⟩
theorem keys_putK {kvs : List (Key × V)} {k : Key} {v x : V} (h : valV kvs k = some x) : (putK kvs k v).map (·.1) = kvs.map (·.1) := by
  unfold putK
  rw [valV_any, h, if_pos (show (some x).isSome = true from rfl), List.map_map]
  refine List.map_congr_left fun p _ => ?_
  show (if p.1 = k then (p.1, v) else p).1 = p.1
  split <;> rfl
theorem DM.put {kvs : List (Key × V)} {f : Int → Option V} (d : DM kvs f) (s : Int) (v : V) : DM (putK kvs (Sum.inl s : Key) v) (fun x => if x = s then some v else f x) := by
  refine ⟨fun x => ?_, ?_, fun p hp => ?_⟩
  · rw [valV_put, d.val x]
    by_cases h : x = s
    · rw [if_pos (by rw [h]), if_pos h]
    · rw [if_neg (fun e => h (Sum.inl.inj e)), if_neg h]
  · cases e : valV kvs (Sum.inl s : Key) with
    | none => exact nd_putK v d.nd e
    | some x => rw [keys_putK e]; exact d.nd
  · have hk : p.1 ∈ (putK kvs (Sum.inl s : Key) v).map (·.1) := List.mem_map.mpr ⟨p, hp, rfl⟩
    cases e : valV kvs (Sum.inl s : Key) with
    | none =>
      rw [putK_new v e] at hp
      rcases List.mem_append.mp hp with h | h
      · exact d.isI p h
      · rw [List.mem_singleton.mp h]
        exact ⟨s, rfl⟩
    | some x =>
      rw [keys_putK e] at hk
      obtain ⟨q, hq, e2⟩ := List.mem_map.mp hk
      obtain ⟨z, hz⟩ := d.isI q hq
      exact ⟨z, by rw [← e2, hz]⟩
theorem DM.congr {kvs : List (Key × V)} {f g : Int → Option V} (d : DM kvs f) (h : ∀ s, f s = g s) : DM kvs g := ⟨fun s => (d.val s).trans (h s), d.nd, d.isI⟩
theorem DM.mem {kvs : List (Key × V)} {f : Int → Option V} (d : DM kvs f) {s : Int} {v : V} : ((Sum.inl s : Key), v) ∈ kvs ↔ f s = some v := by
  rw [← d.val s]
  have nd := d.nd
  clear d
  constructor
  · intro h
    induction kvs with
    | nil => cases h
    | cons p kvs ih =>
      rw [List.map_cons, List.nodup_cons] at nd
      rcases List.mem_cons.mp h with e | h
      · rw [← e]; exact valV_pos rfl
      · rw [valV_neg (fun e => nd.1 (List.mem_map.mpr ⟨_, h, e.symm⟩))]
        exact ih nd.2 h
  · intro h
    unfold valV at h
    obtain ⟨p, hp, e⟩ := Option.map_eq_some_iff.mp h
    have h1 := List.find?_some hp
    have h2 := List.mem_of_find?_eq_some hp
    have h3 : p.1 = Sum.inl s := of_decide_eq_true h1
    rw [← e, ← h3]
    exact h2
def keyI : Key → Int
  | .inl i => i
  | .inr _ => 0
theorem DM.keysI {kvs : List (Key × V)} {f : Int → Option V} (d : DM kvs f) : (kvs.map fun p => keyI p.1).Nodup ∧ ∀ s, s ∈ (kvs.map fun p => keyI p.1) ↔ f s ≠ none := by
  constructor
  · have nd := d.nd
    have ii := d.isI
    clear d
    induction kvs with
    | nil => exact List.nodup_nil
    | cons p kvs ih =>
      rw [List.map_cons, List.nodup_cons] at nd ⊢
      refine ⟨fun h => nd.1 ?_, ih nd.2 fun q hq => ii q (List.mem_cons_of_mem _ hq)⟩
      obtain ⟨q, hq, e⟩ := List.mem_map.mp h
      obtain ⟨x, hx⟩ := ii p List.mem_cons_self
      obtain ⟨y, hy⟩ := ii q (List.mem_cons_of_mem _ hq)
      rw [hx, hy] at e
      refine List.mem_map.mpr ⟨q, hq, ?_⟩
      rw [hx, hy]
      exact congrArg Sum.inl e
  · intro s
    constructor
    · intro h
      obtain ⟨⟨k, v⟩, hq, e⟩ := List.mem_map.mp h
      obtain ⟨y, hy⟩ := d.isI _ hq
      simp only at hy e
      subst hy
      have : y = s := e
      subst this
      rw [d.mem.mp hq]
      exact Option.some_ne_none v
    · intro h
      cases e : f s with
      | none => exact absurd e h
      | some v => exact List.mem_map.mpr ⟨_, d.mem.mpr e, rfl⟩
/-- its size, by a list of all that may be keys -/
theorem DM.size {kvs : List (Key × V)} {f : Int → Option V} (d : DM kvs f) {l : List Int} (h : ∀ s, f s ≠ none → s ∈ l) : kvs.length ≤ l.length := by
  have key : ∀ (a b : List Int), a.Nodup → (∀ x ∈ a, x ∈ b) → a.length ≤ b.length := by
    intro a
    induction a with
    | nil => exact fun _ _ _ => Nat.zero_le _
    | cons x a ih =>
      intro b nd hb
      obtain ⟨m1, m2, rfl⟩ := List.append_of_mem (hb x List.mem_cons_self)
      have nd' := List.nodup_cons.mp nd
      have := ih (m1 ++ m2) nd'.2 fun y hy => by
        rcases List.mem_append.mp (hb y (List.mem_cons_of_mem _ hy)) with z | z
        · exact List.mem_append_left _ z
        · rcases List.mem_cons.mp z with rfl | z
          · exact absurd hy nd'.1
          · exact List.mem_append_right _ z
      simp at this ⊢
      omega
  have := key _ l d.keysI.1 fun s hs => h s ((d.keysI.2 s).mp hs)
  rwa [List.length_map] at this
/-- a dict comprehension over any walk -/
theorem dc_it {J : It} {n : Nat} {G : Hp → Prop} {Y : Nat → Hp → V → Hp → Prop} (w : Walk J n G Y) {g : TG} {tt : TT} {tk tv : TE} {vs : List Nat} {σ : L2.St} {H1 : Hp} {D : Addr} {Qd : Hp → Prop} (Pv : Nat → Hp → Prop) (h0 : Pv 0 (upd H1 D (.dK []))) (hG : ∀ i H, i ≤ n → Pv i H → G H)
    (hs : ∀ i x H H', i < n → Pv i H → Y i H x H' → g x (wipe σ vs) H' fun σ2 H2 => wipe σ2 vs = wipe σ vs ∧ tt σ2 H2 fun b H3 =>
      if b = true then tk σ2 H3 fun y H4 => tv σ2 H4 fun z H5 => ∃ kvs k, y = kV k ∧ H5 D = some (.dK kvs) ∧ kvs.length < sizeLine ∧ Pv (i + 1) (upd H5 D (.dK (putK kvs k z))) else Pv (i + 1) H3) (hd : ∀ H, Pv n H → Qd H) :
    ∃ W : Nat → Nat → Hp → Prop, (∃ m, W 0 m (upd H1 D (.dK []))) ∧ ∀ i m H, W i m H →
      (J.stop i H ∧ Qd H) ∨ (J.go i H ∧ ∃ Nx : Hp → Prop, (∀ H', Nx H' → ∃ m', m' < m ∧ W (i + 1) m' H') ∧ ∀ x H', J.yld i H x H' → g x (wipe σ vs) H' fun σ2 H2 => wipe σ2 vs = wipe σ vs ∧ tt σ2 H2 fun b H3 =>
        if b = true then tk σ2 H3 fun y H4 => tv σ2 H4 fun z H5 => ∃ kvs k, y = kV k ∧ H5 D = some (.dK kvs) ∧ kvs.length < sizeLine ∧ Nx (upd H5 D (.dK (putK kvs k z))) else Nx H3) := by
  refine ⟨fun i m H => m = n - i ∧ i ≤ n ∧ Pv i H, ⟨n, by simp, Nat.zero_le _, h0⟩, ?_⟩
  rintro i m H ⟨rfl, hi, p⟩
  have q := hG i H hi p
  by_cases hlt : i < n
  · exact .inr ⟨w.goes i H hlt q, Pv (i + 1), fun H' p' => ⟨n - (i + 1), by omega, rfl, hlt, p'⟩, fun x H' y => hs i x H H' hlt p (w.yields i H x H' hlt q y)⟩
  · obtain rfl : i = n := by omega
    exact .inl ⟨w.stops H q, hd H p⟩
section
variable {X : Cx}
/-- d != e, e empty -/
def rNeD0 : R2 := fun x y H Q => ∃ a b ks, x = .ref a ∧ y = .ref b ∧ H a = some (.dK ks) ∧ H b = some (.dK []) ∧ Q (.bl (!ks.isEmpty)) H
theorem op_neD0 (hu : X.A.units < cLine) : OpR X (compareOp .NotEq) rNeD0 := by
  intro pins s σ H x y v u Q I rx ry h
  obtain ⟨a, b, ks, rfl, rfl, ea, eb, q⟩ := h
  obtain rfl : v = Value.ref a := rx
  obtain rfl : u = Value.ref b := ry
  obtain ⟨_, ya, va, ra, da⟩ := (show ObjOk X.prog X.w H s.heap a (.dK ks) from I.hok a _ ea)
  obtain ⟨_, yb, vb, rb, db⟩ := (show ObjOk X.prog X.w H s.heap b (.dK []) from I.hok b _ eb)
  cases rb
  cases ra with
  | nil => exact PySem.W.keq_ne (knd := mixKind X.prog X.w) (r := true) ya yb da db hu (fun _ => .nil) (fin_bl I q (by simp))
  | cons r1 r2 => exact PySem.W.keq_ne (knd := mixKind X.prog X.w) (r := true) ya yb da db hu (fun e => by simp at e) (fin_bl I q (by simp))
end
end LB

/-! set(list of ints): its size is at most the length of any list that holds all its members. -/
namespace KS
open PySem PySem.Spec PyProof.Rows L2
theorem nodup_leK {α : Type} [DecidableEq α] : ∀ (l m : List α), l.Nodup → (∀ x ∈ l, x ∈ m) → l.length ≤ m.length
  | [], _, _, _ => Nat.zero_le _
  | x :: l, m, nd, h => by
    obtain ⟨m1, m2, rfl⟩ := List.append_of_mem (h x List.mem_cons_self)
    have nd' := List.nodup_cons.mp nd
    have := nodup_leK l (m1 ++ m2) nd'.2 fun y hy => by
      rcases List.mem_append.mp (h y (List.mem_cons_of_mem _ hy)) with z | z
      · exact List.mem_append_left _ z
      · rcases List.mem_cons.mp z with rfl | z
        · exact absurd hy nd'.1
        · exact List.mem_append_right _ z
    simp at this ⊢
    omega
theorem setR_le {w : World} {h : Heap} {a : Addr} {S : Int → Bool} {n : Nat} (R : SetR w h a S n) {M : List Int} (hM : ∀ k, S k = true → k ∈ M) : n ≤ M.length := by
  obtain ⟨o, es, ep, t, _, _, _, _, nd, hs, _, _, hn, _⟩ := R
  have := nodup_leK _ M nd fun k hk => hM k ((hs k).mpr hk)
  rw [List.length_map, Array.length_toList] at this
  omega
def rSetJ (K : PySem.W.Frag) (w : World) : List V → Hp → VK → Prop := fun xs H Q => ∃ (l : Addr) (ns : List Int), xs = [V.ref l] ∧ SqL K H l (ns.map V.int) ∧ ns.length ≤ 4000 ∧
  ∀ a c, H a = none → (∀ M : List Int, (∀ x ∈ ns, x ∈ M) → c ≤ M.length) → Q (.ref a) (upd H a (SetO w a (fun j => decide (j ∈ ns)) c))
variable {X : Cx}
theorem cr_setJ (hc : X.calm = true) : CallR X (.type "set") (rSetJ X.K X.w) := by
  intro pins s σ H xs us Q I r h
  obtain ⟨l, ns, rfl, hl, hf, q⟩ := h
  rw [Vals.ref1 r]
  obtain ⟨its, rv, pl, hz⟩ := I.list hl
  have hn : H s.heap.objs.size = none := I.hok.fresh (Nat.le_refl _)
  refine set_of_ints (P := X.prog) (w := X.w) ns (I.ok.hd hc) pl.isList (by simpa using ints_of_vals rv) (by unfold scanBound; omega) fun h' tk c R hc' k => ?_
  exact ⟨.ref s.heap.objs.size, upd H s.heap.objs.size (SetO X.w s.heap.objs.size (fun j => decide (j ∈ ns)) c), I.laid (t' := tk) k (Nat.le_refl _) (setO_new R), rfl, q _ c hn fun M hM => setR_le R fun k hk => hM k (of_decide_eq_true hk)⟩
/-- sorted(set(xs)), fewer than 64 different ints -/
def rSS (K : PySem.W.Frag) : List V → Hp → VK → Prop := fun xs H Q => ∃ (l : Addr) (ns M : List Int), xs = [V.ref l] ∧ SqL K H l (ns.map V.int) ∧ ns.length ≤ 4000 ∧ (∀ x ∈ ns, x ∈ M) ∧ M.length < 64 ∧
  ∀ (ms : List Int) (p : Addr) (H' : Hp), ms.Pairwise (· < ·) → (∀ k, k ∈ ms ↔ k ∈ ns) → ms.length ≤ M.length → Same H H' → H p = none → H' p = none → Q (.ref p) (upd H' p (.lst (ms.map V.int)))
end KS

/-! Rules that the charts' own defs want: what is never reached; < of rows; the items of a dict just made; isinstance of plain values. -/
namespace CH
open PySem PySem.Spec PyProof.Rows L2 KS GL LB
section
variable {X : Cx}
/-- a statement that is never reached -/
theorem ps_dead {st : Stmt} : PS X st (fun _ _ _ => False) := ⟨fun _ _ _ _ _ _ h => h.elim⟩
theorem op_ltD (hu : X.A.units + 64 < cLine) : OpR X (compareOp .Lt) (rLtD X.K) := by
  intro pins s σ H x y v u Q I rx ry h
  obtain ⟨d, e, hd, he, ha, hn, hdp, q⟩ := h
  obtain ⟨as, r1⟩ := Dp.reads I d x v hd rx
  obtain ⟨bs, r2⟩ := Dp.reads I e y u he ry
  have hm : min d.depth e.depth ≤ d.depth := Nat.min_le_left _ _
  exact PySem.W.lt_data r1 r2 ha hn (by omega) ⟨.bl _, H, I, rfl, q⟩
/-- a thing just made, read and nothing else from then on: it stays locked -/
def tLk (t : TE) : TE := fun σ H Q => t σ H fun x H1 => ∃ d u, x = .ref d ∧ H1 d = some u ∧ Mut (some u) ∧ ∀ od, Q x (upd H1 d (.frz od u))
theorem pe_lk {e : Expr} {t : TE} (h : PE X e t) : PE X e (tLk t) := by
  refine ⟨fun pins s σ H Q I hw => ?_⟩
  refine thn (h.run pins s σ H _ I hw) fun v s1 ⟨x, H1, I1, r, d, u, ex, hd, mu, q⟩ => ?_
  obtain ⟨od, I2⟩ := I1.lock hd mu
  exact ⟨x, _, I2, r, q od⟩
end
/-! ### isinstance -/
section
variable {K : PySem.W.Frag} {H : Hp} {Q : VK}
theorem isi_str {z : Str} (q : Q (.bl true) H) : rIsi K [.str z, .ty "str"] H Q := ⟨_, _, _, _, true, rfl, .ty _, .base (.str z), kit_ty (by decide +kernel), q⟩
theorem isi_int {n : Int} (q : Q (.bl true) H) : rIsi K [.int n, .ty "int"] H Q := ⟨_, _, _, _, true, rfl, .ty _, .base (.int n), kit_ty (by decide +kernel), q⟩
theorem isi_int_bool {n : Int} (q : Q (.bl false) H) : rIsi K [.int n, .ty "bool"] H Q := ⟨_, _, _, _, false, rfl, .ty _, .base (.int n), kit_ty (by decide +kernel), q⟩
theorem isi_tup {a : Addr} {xs : List V} (h : SqT K H a xs) (q : Q (.bl true) H) : rIsi K [.ref a, .ty "tuple"] H Q := by
  rcases h with (h | ⟨o, h⟩) | ⟨o, its, n, h, hc, _⟩
  · exact ⟨_, _, _, _, true, rfl, .ty _, .base (.tup h), kit_ty (by decide +kernel), q⟩
  · exact ⟨_, _, _, _, true, rfl, .ty _, .fTuple h, kit_ty (by decide +kernel), q⟩
  · exact ⟨_, _, _, _, true, rfl, .ty _, .kTuple h hc, kit_ty (by decide +kernel), q⟩
variable {te : TE} {σ : L2.St}
/-- .. of a variable -/
theorem v_isi_str {i : Nat} {z : Str} (hi : σ[i]? = some (some (.str z))) (q : Q (.bl true) H) : tCB (rIsi K) (tCons (tVar i) (tCons (tC (.ty "str")) tNil)) σ H Q := ⟨.str z, hi, isi_str q⟩
theorem v_isi_int {i : Nat} {n : Int} (hi : σ[i]? = some (some (.int n))) (q : Q (.bl true) H) : tCB (rIsi K) (tCons (tVar i) (tCons (tC (.ty "int")) tNil)) σ H Q := ⟨.int n, hi, isi_int q⟩
theorem v_isi_ib {i : Nat} {n : Int} (hi : σ[i]? = some (some (.int n))) (q : Q (.bl false) H) : tCB (rIsi K) (tCons (tVar i) (tCons (tC (.ty "bool")) tNil)) σ H Q := ⟨.int n, hi, isi_int_bool q⟩
theorem v_isi_tup {i : Nat} {a : Addr} {xs : List V} (hi : σ[i]? = some (some (.ref a))) (h : SqT K H a xs) (q : Q (.bl true) H) : tCB (rIsi K) (tCons (tVar i) (tCons (tC (.ty "tuple")) tNil)) σ H Q := ⟨.ref a, hi, isi_tup h q⟩
end
end CH

namespace ML
open PySem PySem.Spec PyProof.Rows L2 KS GL LB
section
variable {K : PySem.W.Frag} {ρ : MS} {Q : Rt → MS → Prop} {Qb : Bool → MS → Prop} {ta tb te tc : TE} {t u : TT} {np : Nat} {Φ : Out} {ts us : TS}
/-! ### arguments -/
theorem evA_nil {Q : List Rt → MS → Prop} (q : Q [] ρ) : evA tNil ρ Q := fun σ H0 H G k S hk => hk [] ρ [] (fun _ => False) H0 H q ⟨Ext.refl, ⟨rfl, fun _ h => h⟩, fun _ h => h.elim, S.frame fun a ha => ha.resolve_right id⟩
theorem evA_cons {tr : TA} {Q : List Rt → MS → Prop} (h : ev ta ρ fun r ρ1 => evA tr ρ1 fun rs ρ2 => Q (r :: rs) ρ2) : evA (tCons ta tr) ρ Q := by
  intro σ H0 H G k S hk
  refine h σ H0 H G _ S fun r1 ρ1 v1 f1 H1 H1' h1 p1 => ?_
  refine h1 σ H1 H1' (fun a => G a ∨ f1 a) _ p1.sat fun rs ρ2 vs f2 H2 H2' h2 p2 => ?_
  have rt1 : RtH r1 σ H2 H2' v1 f1 := p1.rt.loc p2.ext.s0 fun a ha => ⟨p2.ext.fr a (.inr ha), (p2.sat.fr a (.inl (.inr ha))).2⟩
  refine hk (r1 :: rs) ρ2 (v1 :: vs) (fun a => f1 a ∨ f2 a) H2 H2' h2 ⟨p1.ext.trans (p2.ext.weak fun _ => .inl), ⟨v1, vs, f1, f2, rfl, rt1, p2.rt, fun _ => Iff.rfl, fun a a1 a2 => p2.dis a a2 (.inr a1)⟩, fun a ha => ha.elim (p1.dis a) fun a2 g => p2.dis a a2 (.inl g), p2.sat.frame fun a ha => ?_⟩
  rcases ha with h | h | h
  · exact .inl (.inl h)
  · exact .inl (.inr h)
  · exact .inr h
/-- arguments that are data -/
def evD (K : PySem.W.Frag) (ta : TA) (ρ : MS) (Q : List PyData → MS → Prop) : Prop := ∀ (σ : L2.St) (H0 H : Hp) (G : FP) (k : List V → Hp → Prop), Sat ρ σ H0 H G →
  (∀ ds ρ' vs H0' H', Q ds ρ' → Ext G H0 H H0' H' → DaAll K H0' vs ds → Sat ρ' σ H0' H' G → k vs H') → ta σ H k
theorem evD_nil {Q : List PyData → MS → Prop} (q : Q [] ρ) : evD K tNil ρ Q := fun σ H0 H G k S hk => hk [] ρ [] H0 H q Ext.refl .nil S
/-- a list of one's own, given away: it stands from then on -/
theorem lo_freeze {ds : List PyData} {σ : L2.St} {H0 H : Hp} {G : FP} {v : V} {f : FP} (S : Sat ρ σ H0 H fun a => G a ∨ f a) (h : (lo K ds).holds H0 H v f) (hd : ∀ a, f a → ¬ G a) : ∃ H0', Same H0 H0' ∧ Da K H0' v (.list ds) ∧ Sat ρ σ H0' H G := by
  obtain ⟨a, xs, rfl, hf, h1, h2, h3⟩ := h
  have ha : f a := (hf a).mpr rfl
  have S0 := same_upd (o := .lst xs) h1
  exact ⟨_, S0, .lst upd_same (DaAll.mono S0 _ _ h3), S.freeze h2 (hd a ha) ha⟩
/-- a result as a datum: what is a thing of one's own is given away (its slot, too) -/
inductive asD (K : PySem.W.Frag) (ρ : MS) : Rt → PyData → MS → Prop
  | val {d : PyData} : asD K ρ (.val (dat K d)) d ρ
  | own {ds : List PyData} : asD K ρ (.val (lo K ds)) (.list ds) ρ
  | slot {i : Nat} {ds : List PyData} : ρ[i]? = some (some (lo K ds)) → asD K ρ (.at i) (.list ds) (ρ.set i (some (dat K (.list ds))))
theorem asD.go {r : Rt} {d : PyData} {ρ' : MS} {σ : L2.St} {H0 H : Hp} {G : FP} {v : V} {f : FP} (h : asD K ρ r d ρ') (S : Sat ρ σ H0 H fun a => G a ∨ f a) (hr : RtH r σ H0 H v f) (hd : ∀ a, f a → ¬ G a) : ∃ H0', Same H0 H0' ∧ Da K H0' v d ∧ Sat ρ' σ H0' H G := by
  cases h with
  | val => exact ⟨H0, Same.refl _, hr.1, S.frame fun _ => .inl⟩
  | own => exact lo_freeze S hr hd
  | @slot i ds e =>
    have S1 : Sat ρ σ H0 H G := S.frame fun _ => .inl
    obtain ⟨w, f', e1, r, d', S2⟩ := S1.take e
    obtain rfl : w = v := Option.some.inj (Option.some.inj (e1.symm.trans hr.1))
    obtain ⟨H0', s0, hda, S3⟩ := lo_freeze S2 r d'
    refine ⟨H0', s0, hda, ?_⟩
    have S4 : Sat (ρ.set i none) σ H0' H fun a => G a ∨ False := S3.frame fun a ha => ha.resolve_right id
    exact S4.back (R := dat K (.list ds)) e1 ⟨hda, fun _ h => h⟩ fun _ h => h.elim
theorem evD_cons {tr : TA} {Q : List PyData → MS → Prop} (h : ev ta ρ fun r ρ1 => ∃ d ρ2, asD K ρ1 r d ρ2 ∧ evD K tr ρ2 fun ds ρ3 => Q (d :: ds) ρ3) : evD K (tCons ta tr) ρ Q := by
  intro σ H0 H G k S hk
  refine h σ H0 H G _ S fun r1 ρ1 v1 f1 H1 H1' h1 p1 => ?_
  obtain ⟨d, ρ2, ha, h1⟩ := h1
  obtain ⟨H0', s0, hda, S2⟩ := ha.go p1.sat p1.rt p1.dis
  refine h1 σ H0' H1' G _ S2 fun ds ρ3 vs H2 H2' h2 e2 hds S3 => ?_
  exact hk (d :: ds) ρ3 (v1 :: vs) H2 H2' h2 ⟨(p1.ext.s0.trans s0).trans e2.s0, fun a ha => (e2.fr a ha).trans (p1.ext.fr a ha)⟩ (.cons (Da.mono e2.s0 _ _ hda) hds) S3
theorem post_new {G : FP} {σ : L2.St} {H0 H : Hp} {p : Addr} {o : HO} {d : PyData} (S : Sat ρ σ H0 H G) (hp : H p = none) (h : Da K (upd H0 p o) (.ref p) d) : Post G σ H0 H (.val (dat K d)) ρ (.ref p) (fun _ => False) (upd H0 p o) (upd H p o) := by
  refine ⟨⟨same_upd (S.same.free hp), fun a ha => ?_⟩, ⟨h, fun _ h => h⟩, fun _ h => h.elim, (S.new hp).frame fun a ha => ha.resolve_right id⟩
  exact upd_ne fun e => (S.fr a ha).1 (e ▸ hp)
theorem post_own {G : FP} {σ : L2.St} {H0 H : Hp} {p : Addr} {xs : List V} {ds : List PyData} (S : Sat ρ σ H0 H G) (hp : H p = none) (h : DaAll K H0 xs ds) : Post G σ H0 H (.val (lo K ds)) ρ (.ref p) (fun a => a = p) H0 (upd H p (.lst xs)) := by
  refine ⟨⟨Same.refl _, fun a ha => ?_⟩, ⟨p, xs, rfl, fun _ => Iff.rfl, S.same.free hp, upd_same, h⟩, fun a e ha => ?_, S.own hp⟩
  · exact upd_ne fun e => (S.fr a ha).1 (e ▸ hp)
  · exact (S.fr a ha).1 (e ▸ hp)
theorem ev_tup {ta : TA} (h : evD K ta ρ fun ds ρ1 => ds.length ≤ sizeLine ∧ Q (.val (dat K (.tuple ds))) ρ1) : ev (tTup ta) ρ Q := by
  intro σ H0 H G k S hk
  refine h σ H0 H G _ S fun ds ρ1 vs H1 H1' ⟨hl, q⟩ e1 hds S1 => ⟨by rw [hds.len]; exact hl, fun p hp => ?_⟩
  have P := post_new (o := .tup vs) S1 hp (d := .tuple ds) (.tup (.inl (.inl upd_same)) (DaAll.mono (same_upd (S1.same.free hp)) _ _ hds))
  exact hk _ _ _ _ _ _ q ⟨e1.trans P.ext, P.rt, P.dis, P.sat⟩
/-- a new list, of one's own -/
theorem ev_lst {ta : TA} (h : evD K ta ρ fun ds ρ1 => ds.length ≤ sizeLine ∧ Q (.val (lo K ds)) ρ1) : ev (tLst ta) ρ Q := by
  intro σ H0 H G k S hk
  refine h σ H0 H G _ S fun ds ρ1 vs H1 H1' ⟨hl, q⟩ e1 hds S1 => ⟨by rw [hds.len]; exact hl, fun p hp => ?_⟩
  have P := post_own S1 hp hds
  exact hk _ _ _ _ _ _ q ⟨e1.trans P.ext, P.rt, P.dis, P.sat⟩
/-- .. that stands -/
theorem ev_lstD {ta : TA} (h : evD K ta ρ fun ds ρ1 => ds.length ≤ sizeLine ∧ Q (.val (dat K (.list ds))) ρ1) : ev (tLst ta) ρ Q := by
  intro σ H0 H G k S hk
  refine h σ H0 H G _ S fun ds ρ1 vs H1 H1' ⟨hl, q⟩ e1 hds S1 => ⟨by rw [hds.len]; exact hl, fun p hp => ?_⟩
  have P := post_new (o := .lst vs) S1 hp (d := .list ds) (.lst upd_same (DaAll.mono (same_upd (S1.same.free hp)) _ _ hds))
  exact hk _ _ _ _ _ _ q ⟨e1.trans P.ext, P.rt, P.dis, P.sat⟩
/-! ### tests and what hangs on them -/
theorem evT_val (h : ev te ρ fun r ρ1 => ∃ b, r = .val (dat K (.bool b)) ∧ Qb b ρ1) : evT (tTest te) ρ Qb := by
  intro σ H0 H G k S hk
  refine h σ H0 H G _ S fun r ρ1 v f H1 H1' ⟨b, e, q⟩ p => ?_
  subst e
  have hv := p.rt.1
  cases hv
  exact ⟨b, rfl, hk b ρ1 H1 H1' q p.ext (p.sat.frame fun _ => .inl)⟩
theorem evT_B (h : ev te ρ fun r ρ1 => ∃ b, r = .val (dat K (.bool b)) ∧ Qb b ρ1) : evT (tB te) ρ Qb := by
  intro σ H0 H G k S hk
  refine h σ H0 H G _ S fun r ρ1 v f H1 H1' ⟨b, e, q⟩ p => ?_
  subst e
  have hv := p.rt.1
  cases hv
  exact ⟨b, rfl, hk b ρ1 H1 H1' q p.ext (p.sat.frame fun _ => .inl)⟩
theorem evT_yes (q : Qb true ρ) : evT tYes ρ Qb := fun σ H0 H G k S hk => hk true ρ H0 H q Ext.refl S
theorem evT_and (h : evT t ρ fun b ρ1 => (b = true → evT u ρ1 Qb) ∧ (b = false → Qb false ρ1)) : evT (tAnd t u) ρ Qb := by
  intro σ H0 H G k S hk
  refine h σ H0 H G _ S fun b ρ1 H1 H1' ⟨q1, q2⟩ e1 S1 => ?_
  cases b with
  | true => exact iteT (q1 rfl σ H1 H1' G k S1 fun b ρ2 H2 H2' q e2 S2 => hk b ρ2 H2 H2' q (e1.trans e2) S2)
  | false => exact iteF (hk false ρ1 H1 H1' (q2 rfl) e1 S1)
theorem evT_or (h : evT t ρ fun b ρ1 => (b = true → Qb true ρ1) ∧ (b = false → evT u ρ1 Qb)) : evT (tOr t u) ρ Qb := by
  intro σ H0 H G k S hk
  refine h σ H0 H G _ S fun b ρ1 H1 H1' ⟨q1, q2⟩ e1 S1 => ?_
  cases b with
  | true => exact iteT (hk true ρ1 H1 H1' (q1 rfl) e1 S1)
  | false => exact iteF (q2 rfl σ H1 H1' G k S1 fun b ρ2 H2 H2' q e2 S2 => hk b ρ2 H2 H2' q (e1.trans e2) S2)
theorem evT_not (h : evT t ρ fun b ρ1 => Qb (!b) ρ1) : evT (tNot t) ρ Qb := fun σ H0 H G k S hk => h σ H0 H G _ S fun b ρ1 H1 H1' q e1 S1 => hk (!b) ρ1 H1 H1' q e1 S1
theorem evT_mono {Qb' : Bool → MS → Prop} (h : evT t ρ Qb) (hq : ∀ b ρ', Qb b ρ' → Qb' b ρ') : evT t ρ Qb' := fun σ H0 H G k S hk => h σ H0 H G k S fun b ρ' H1 H1' q => hk b ρ' H1 H1' (hq _ _ q)
theorem post_ext {G : FP} {σ : L2.St} {H0 H H1 H1' : Hp} {r : Rt} {ρ' : MS} {v : V} {f : FP} {H2 H2' : Hp} (e : Ext G H0 H H1 H1') (p : Post G σ H1 H1' r ρ' v f H2 H2') : Post G σ H0 H r ρ' v f H2 H2' := ⟨e.trans p.ext, p.rt, p.dis, p.sat⟩
theorem ev_if (h : evT t ρ fun b ρ1 => (b = true → ev ta ρ1 Q) ∧ (b = false → ev tb ρ1 Q)) : ev (tIf t ta tb) ρ Q := by
  intro σ H0 H G k S hk
  refine h σ H0 H G _ S fun b ρ1 H1 H1' ⟨q1, q2⟩ e1 S1 => ?_
  cases b with
  | true => exact iteT (q1 rfl σ H1 H1' G k S1 fun r ρ2 v f H2 H2' q p => hk r ρ2 v f H2 H2' q (post_ext e1 p))
  | false => exact iteF (q2 rfl σ H1 H1' G k S1 fun r ρ2 v f H2 H2' q p => hk r ρ2 v f H2 H2' q (post_ext e1 p))
theorem ev_andV (h : ev ta ρ fun r ρ1 => ∃ b, r = .val (dat K (.bool b)) ∧ (b = true → ev tb ρ1 Q) ∧ (b = false → Q (.val (dat K (.bool false))) ρ1)) : ev (tAndV ta tb) ρ Q := by
  intro σ H0 H G k S hk
  refine h σ H0 H G _ S fun r ρ1 v f H1 H1' ⟨b, e, q1, q2⟩ p => ?_
  subst e
  have hv := p.rt.1
  cases hv
  have S1 := p.sat.frame (G' := G) fun _ => .inl
  refine ⟨b, rfl, ?_⟩
  cases b with
  | true => exact iteT (q1 rfl σ H1 H1' G k S1 fun r ρ2 v f H2 H2' q p2 => hk r ρ2 v f H2 H2' q (post_ext p.ext p2))
  | false => exact iteF (hk _ _ _ _ _ _ (q2 rfl) (post_ext p.ext (post_pure S1 (.bl false))))
theorem ev_orV (h : ev ta ρ fun r ρ1 => ∃ b, r = .val (dat K (.bool b)) ∧ (b = true → Q (.val (dat K (.bool true))) ρ1) ∧ (b = false → ev tb ρ1 Q)) : ev (tOrV ta tb) ρ Q := by
  intro σ H0 H G k S hk
  refine h σ H0 H G _ S fun r ρ1 v f H1 H1' ⟨b, e, q1, q2⟩ p => ?_
  subst e
  have hv := p.rt.1
  cases hv
  have S1 := p.sat.frame (G' := G) fun _ => .inl
  refine ⟨b, rfl, ?_⟩
  cases b with
  | true => exact iteT (hk _ _ _ _ _ _ (q1 rfl) (post_ext p.ext (post_pure S1 (.bl true))))
  | false => exact iteF (q2 rfl σ H1 H1' G k S1 fun r ρ2 v f H2 H2' q p2 => hk r ρ2 v f H2 H2' q (post_ext p.ext p2))
theorem ev_notV (h : ev ta ρ fun r ρ1 => ∃ b, r = .val (dat K (.bool b)) ∧ Q (.val (dat K (.bool (!b)))) ρ1) : ev (tNotV ta) ρ Q := by
  intro σ H0 H G k S hk
  refine h σ H0 H G _ S fun r ρ1 v f H1 H1' ⟨b, e, q⟩ p => ?_
  subst e
  have hv := p.rt.1
  cases hv
  exact ⟨b, rfl, hk _ _ _ _ _ _ q (post_ext p.ext (post_pure (p.sat.frame fun _ => .inl) (.bl _)))⟩
/-- a < b < c of whole numbers -/
theorem ev_chainI {g g' : Int → Int → Bool} (h : ev ta ρ fun r1 ρ1 => ∃ i, r1 = .val (dat K (.int i)) ∧ ev tb ρ1 fun r2 ρ2 => ∃ j, r2 = .val (dat K (.int j)) ∧
      (g i j = true → ev tc ρ2 fun r3 ρ3 => ∃ l, r3 = .val (dat K (.int l)) ∧ Q (.val (dat K (.bool (g' j l)))) ρ3) ∧ (g i j = false → Q (.val (dat K (.bool false))) ρ2)) :
    ev (tChain (rI0 fun i j => .bl (g i j)) (rI0 fun i j => .bl (g' i j)) ta tb tc) ρ Q := by
  intro σ H0 H G k S hk
  refine h σ H0 H G _ S fun r1 ρ1 v1 f1 H1 H1' ⟨i, ei, h1⟩ p1 => ?_
  subst ei
  have S1 := p1.sat.frame (G' := G) fun _ => .inl
  have hv1 := p1.rt.1
  cases hv1
  refine h1 σ H1 H1' G _ S1 fun r2 ρ2 v2 f2 H2 H2' ⟨j, ej, q1, q2⟩ p2 => ?_
  subst ej
  have S2 := p2.sat.frame (G' := G) fun _ => .inl
  have hv2 := p2.rt.1
  cases hv2
  have e2 := p1.ext.trans p2.ext
  refine ⟨i, j, rfl, rfl, g i j, rfl, ?_⟩
  cases hg : g i j with
  | true =>
    refine iteT (q1 hg σ H2 H2' G _ S2 fun r3 ρ3 v3 f3 H3 H3' ⟨l, el, q⟩ p3 => ?_)
    subst el
    have hv3 := p3.rt.1
    cases hv3
    exact ⟨j, l, rfl, rfl, hk _ _ _ _ _ _ q (post_ext e2 (post_ext p3.ext (post_pure (p3.sat.frame fun _ => .inl) (.bl _))))⟩
  | false => exact iteF (hk _ _ _ _ _ _ (q2 hg) (post_ext e2 (post_pure S2 (.bl false))))
/-! ### targets -/
/-- the value goes to the slots l (not among the first np) -/
def tg (l : List Nat) (g : TG) (r : Rt) (ρ : MS) (Q : MS → Prop) : Prop := ∀ (σ : L2.St) (H0 H : Hp) (G : FP) (v : V) (f : FP) (k : L2.St → Hp → Prop), Sat ρ σ H0 H (fun a => G a ∨ f a) → RtH r σ H0 H v f → (∀ a, f a → ¬ G a) →
  (∀ ρ' σ' H0' H', Q ρ' → (∀ n, (∀ i ∈ l, n ≤ i) → σ'.take n = σ.take n) → (∀ vs : List Nat, (∀ i ∈ l, i ∈ vs) → wipe σ' vs = wipe σ vs) → Ext G H0 H H0' H' → Sat ρ' σ' H0' H' G → k σ' H') → g v σ H k
theorem take_set {α : Type} {x : α} : ∀ {l : List α} {i n : Nat}, n ≤ i → (l.set i x).take n = l.take n
  | [], _, _, _ => rfl
  | y :: l, i, 0, _ => by simp
  | y :: l, 0, n + 1, h => absurd h (Nat.not_succ_le_zero _)
  | y :: l, i + 1, n + 1, h => by
    show y :: (l.set i x).take n = y :: l.take n
    rw [take_set (Nat.le_of_succ_le_succ h)]
theorem wipe_set {σ : L2.St} {i : Nat} {x : Option V} : ∀ {vs : List Nat}, i ∈ vs → wipe (σ.set i x) vs = wipe σ vs
  | [], h => by cases h
  | v :: vs, h => by
    unfold wipe
    by_cases hv : i ∈ vs
    · rw [wipe_set hv]
    · have e : i = v := (List.mem_cons.mp h).resolve_right hv
      subst e
      have out : ∀ {σ : L2.St} {ws : List Nat}, i ∉ ws → wipe (σ.set i x) ws = (wipe σ ws).set i x := fun {σ ws} => by
        induction ws with
        | nil => intro _; rfl
        | cons w ws ih =>
          intro hw
          unfold wipe
          rw [ih fun z => hw (List.mem_cons_of_mem _ z), List.set_comm _ _ (by intro e; exact hw (by rw [e]; exact List.mem_cons_self))]
      rw [out hv, List.set_set]
theorem tg_name {i : Nat} {R : Res} {Q : MS → Prop} (q : Q (ρ.set i (some R))) : tg [i] (gName i) (.val R) ρ Q := by
  intro σ H0 H G v f k S hr hd hk
  exact hk _ _ H0 H q (fun n hn => take_set (hn i List.mem_cons_self)) (fun vs hv => wipe_set (hv i List.mem_cons_self)) Ext.refl (S.set hr hd)
/-- a thing of one's own moves to another slot -/
theorem tg_move {i j : Nat} {R : Res} {Q : MS → Prop} (h : ρ[j]? = some (some R)) (q : Q ((ρ.set j none).set i (some R))) : tg [i] (gName i) (.at j) ρ Q := by
  intro σ H0 H G v f k S hr hd hk
  have S1 : Sat ρ σ H0 H G := S.frame fun _ => .inl
  obtain ⟨w, f', e, r, d, S2⟩ := S1.take h
  obtain rfl : w = v := Option.some.inj (Option.some.inj (e.symm.trans hr.1))
  exact hk _ _ H0 H q (fun n hn => take_set (hn i List.mem_cons_self)) (fun vs hv => wipe_set (hv i List.mem_cons_self)) Ext.refl (S2.set r d)
/-- many targets, the items of a tuple -/
def tgs (K : PySem.W.Frag) (l : List Nat) (g : TGs) (ds : List PyData) (ρ : MS) (Q : MS → Prop) : Prop := ∀ (σ : L2.St) (H0 H : Hp) (G : FP) (vs : List V) (k : L2.St → Hp → Prop), Sat ρ σ H0 H G → DaAll K H0 vs ds →
  (∀ ρ' σ' H0' H', Q ρ' → (∀ n, (∀ i ∈ l, n ≤ i) → σ'.take n = σ.take n) → (∀ vs : List Nat, (∀ i ∈ l, i ∈ vs) → wipe σ' vs = wipe σ vs) → Ext G H0 H H0' H' → Sat ρ' σ' H0' H' G → k σ' H') → g vs σ H k
theorem tgs_nil {Q : MS → Prop} (q : Q ρ) : tgs K [] gNil [] ρ Q := by
  intro σ H0 H G vs k S h hk
  cases h
  exact ⟨rfl, hk ρ σ H0 H q (fun _ _ => rfl) (fun _ _ => rfl) Ext.refl S⟩
theorem tgs_cons {l1 l2 : List Nat} {g : TG} {gs : TGs} {d : PyData} {ds : List PyData} {Q : MS → Prop} (h : tg l1 g (.val (dat K d)) ρ fun ρ1 => tgs K l2 gs ds ρ1 Q) : tgs K (l1 ++ l2) (gCons g gs) (d :: ds) ρ Q := by
  intro σ H0 H G vs k S hds hk
  cases hds with
  | cons h1 h2 =>
    refine ⟨_, _, rfl, h σ H0 H G _ (fun _ => False) _ (S.frame fun a ha => ha.resolve_right id) ⟨h1, fun _ h => h⟩ (fun _ h => h.elim) fun ρ1 σ1 H1 H1' q1 t1 w1 e1 S1 => ?_⟩
    exact q1 σ1 H1 H1' G _ _ S1 (DaAll.mono e1.s0 _ _ h2) fun ρ2 σ2 H2 H2' q2 t2 w2 e2 S2 => hk ρ2 σ2 H2 H2' q2 (fun n hn => (t2 n fun i hi => hn i (List.mem_append_right _ hi)).trans (t1 n fun i hi => hn i (List.mem_append_left _ hi)))
      (fun vs hv => (w2 vs fun i hi => hv i (List.mem_append_right _ hi)).trans (w1 vs fun i hi => hv i (List.mem_append_left _ hi))) (e1.trans e2) S2
theorem tg_tup {l : List Nat} {n : Nat} {g : TGs} {ds : List PyData} {Q : MS → Prop} (hn : ds.length = n) (h : tgs K l g ds ρ Q) : tg l (gTup K n g) (.val (dat K (.tuple ds))) ρ Q := by
  intro σ H0 H G v f k S hr hd hk
  have hv := hr.1
  cases hv with
  | tup h1 h2 =>
    exact ⟨_, _, rfl, sameT S.same h1, by rw [h2.len]; exact hn, h σ H0 H G _ _ (S.frame fun _ => .inl) h2 hk⟩
/-! ### statements -/
def Out.to (Φ : Out) (nx : MS → Prop) : Out := { Φ with nx := nx }
theorem ex_seq (h : ex np ts ρ (Φ.to fun ρ1 => ex np us ρ1 Φ)) : ex np (tSeq ts us) ρ Φ := by
  intro σ H0 H G D S kn kr kb kc
  refine h σ H0 H G _ S (fun ρ1 σ1 H1 H1' q1 t1 e1 S1 => ?_) kr kb kc
  refine q1 σ1 H1 H1' G D S1 (fun ρ2 σ2 H2 H2' q2 t2 e2 S2 => kn ρ2 σ2 H2 H2' q2 (t2.trans t1) (e1.trans e2) S2) (fun r ρ2 σ2 v f H2 H2' q2 t2 p2 => kr r ρ2 σ2 v f H2 H2' q2 (t2.trans t1) (post_ext e1 p2))
    (fun ρ2 σ2 H2 H2' q2 t2 e2 S2 => kb ρ2 σ2 H2 H2' q2 (t2.trans t1) (e1.trans e2) S2) fun ρ2 σ2 H2 H2' q2 t2 e2 S2 => kc ρ2 σ2 H2 H2' q2 (t2.trans t1) (e1.trans e2) S2
theorem ex_next (q : Φ.nx ρ) : ex np tNext ρ Φ := fun σ H0 H G D S kn _ _ _ => kn ρ σ H0 H q rfl Ext.refl S
theorem ex_break (q : Φ.bk ρ) : ex np tBreak ρ Φ := fun σ H0 H G D S _ _ kb _ => kb ρ σ H0 H q rfl Ext.refl S
theorem ex_cont (q : Φ.ct ρ) : ex np tCont ρ Φ := fun σ H0 H G D S _ _ _ kc => kc ρ σ H0 H q rfl Ext.refl S
theorem ex_drop (h : ev te ρ fun _ ρ1 => Φ.nx ρ1) : ex np (tDrop te) ρ Φ := fun σ H0 H G D S kn _ _ _ => h σ H0 H G _ S fun r ρ1 v f H1 H1' q p => kn ρ1 σ H1 H1' q rfl p.ext (p.sat.frame fun _ => .inl)
theorem ex_ret (h : ev te ρ Φ.rt) : ex np (tRet te) ρ Φ := fun σ H0 H G D S _ kr _ _ => h σ H0 H G _ S fun r ρ1 v f H1 H1' q p => kr r ρ1 σ v f H1 H1' q rfl p
theorem ex_retN (h : Φ.rt (.val (dat K .none)) ρ) : ex np tRetN ρ Φ := fun σ H0 H G D S _ kr _ _ => kr _ ρ σ _ _ H0 H h rfl (post_pure S .non)
theorem ex_asg {l : List Nat} {g : TG} (h : ev te ρ fun r ρ1 => tg l g r ρ1 Φ.nx) (hl : ∀ i ∈ l, np ≤ i) : ex np (tAsg te g) ρ Φ := by
  intro σ H0 H G D S kn _ _ _
  refine h σ H0 H G _ S fun r ρ1 v f H1 H1' q p => ?_
  exact q σ H1 H1' G v f _ p.sat p.rt p.dis fun ρ2 σ2 H2 H2' q2 t2 _ e2 S2 => kn ρ2 σ2 H2 H2' q2 (t2 np hl) (p.ext.trans e2) S2
theorem ex_if (h : evT t ρ fun b ρ1 => (b = true → ex np ts ρ1 Φ) ∧ (b = false → ex np us ρ1 Φ)) : ex np (tIfS t ts us) ρ Φ := by
  intro σ H0 H G D S kn kr kb kc
  refine h σ H0 H G _ S fun b ρ1 H1 H1' ⟨q1, q2⟩ e1 S1 => ?_
  have go : ∀ {ws : TS}, ex np ws ρ1 Φ → ws D σ H1' := fun {ws} hw => hw σ H1 H1' G D S1 (fun ρ2 σ2 H2 H2' q2 t2 e2 S2 => kn ρ2 σ2 H2 H2' q2 t2 (e1.trans e2) S2) (fun r ρ2 σ2 v f H2 H2' q2 t2 p2 => kr r ρ2 σ2 v f H2 H2' q2 t2 (post_ext e1 p2))
    (fun ρ2 σ2 H2 H2' q2 t2 e2 S2 => kb ρ2 σ2 H2 H2' q2 t2 (e1.trans e2) S2) fun ρ2 σ2 H2 H2' q2 t2 e2 S2 => kc ρ2 σ2 H2 H2' q2 t2 (e1.trans e2) S2
  cases b with
  | true => exact iteT (go (q1 rfl))
  | false => exact iteF (go (q2 rfl))
/-- a, b = e, f -/
theorem ex_par {i j : Nat} {ta : TA} (hij : i ≠ j) (hi : np ≤ i) (hj : np ≤ j) (h : evA ta ρ fun rs ρ1 => ∃ r1 r2, rs = [r1, r2] ∧ ∃ R1 R2, r1 = .val R1 ∧ r2 = .val R2 ∧ Φ.nx ((ρ1.set i (some R1)).set j (some R2))) : ex np (tPar i j ta) ρ Φ := by
  intro σ H0 H G D S kn _ _ _
  refine h σ H0 H G _ S fun rs ρ1 vs f H1 H1' ⟨r1, r2, e, R1, R2, e1, e2, q⟩ p => ?_
  subst e e1 e2
  obtain ⟨v1, vs1, f1, g1, rfl, h1, ⟨v2, vs2, f2, g2, rfl, h2, ⟨rfl, h3⟩, u2, d2⟩, u1, d1⟩ := p.rt
  have S1 := p.sat.frame (G' := fun a => (G a ∨ f2 a) ∨ f1 a) fun a ha => by
    rcases ha with (ha | ha) | ha
    · exact .inl ha
    · exact .inr ((u1 a).mpr (.inr ((u2 a).mpr (.inl ha))))
    · exact .inr ((u1 a).mpr (.inl ha))
  have D1 : ∀ a, f1 a → ¬ (G a ∨ f2 a) := fun a ha hb => hb.elim (p.dis a ((u1 a).mpr (.inl ha))) fun hb => d1 a ha ((u2 a).mpr (.inl hb))
  have S2 := S1.set (i := i) h1 D1
  have S3 := S2.set (i := j) h2 fun a ha => p.dis a ((u1 a).mpr (.inr ((u2 a).mpr (.inl ha))))
  exact ⟨v1, v2, rfl, kn _ _ H1 H1' q ((take_set hj).trans (take_set hi)) p.ext S3⟩
/-- what is known may be told otherwise: a slot's list is given away, or a slot is forgotten -/
theorem ex_frz {i : Nat} {ds : List PyData} (h : ρ[i]? = some (some (lo K ds))) (q : ex np ts (ρ.set i (some (dat K (.list ds)))) Φ) : ex np ts ρ Φ := by
  intro σ H0 H G D S kn kr kb kc
  obtain ⟨w, f', e1, r, d', S2⟩ := S.take h
  obtain ⟨H0', s0, hda, S3⟩ := lo_freeze S2 r d'
  have S4 : Sat (ρ.set i none) σ H0' H fun a => G a ∨ False := S3.frame fun a ha => ha.resolve_right id
  have S5 := S4.back (R := dat K (.list ds)) e1 ⟨hda, fun _ h => h⟩ fun _ h => h.elim
  have e0 : Ext G H0 H H0' H := ⟨s0, fun _ _ => rfl⟩
  exact q σ H0' H G D S5 (fun ρ2 σ2 H2 H2' q2 t2 e2 S2 => kn ρ2 σ2 H2 H2' q2 t2 (e0.trans e2) S2) (fun r ρ2 σ2 v f H2 H2' q2 t2 p2 => kr r ρ2 σ2 v f H2 H2' q2 t2 (post_ext e0 p2))
    (fun ρ2 σ2 H2 H2' q2 t2 e2 S2 => kb ρ2 σ2 H2 H2' q2 t2 (e0.trans e2) S2) fun ρ2 σ2 H2 H2' q2 t2 e2 S2 => kc ρ2 σ2 H2 H2' q2 t2 (e0.trans e2) S2
theorem ex_forget (i : Nat) (q : ex np ts (ρ.set i none) Φ) : ex np ts ρ Φ := fun σ H0 H G D S kn kr kb kc => q σ H0 H G D (S.drop i) kn kr kb kc
theorem ex_mono {Φ' : Out} (h : ex np ts ρ Φ) (h1 : ∀ ρ, Φ.nx ρ → Φ'.nx ρ) (h2 : ∀ r ρ, Φ.rt r ρ → Φ'.rt r ρ) (h3 : ∀ ρ, Φ.bk ρ → Φ'.bk ρ) (h4 : ∀ ρ, Φ.ct ρ → Φ'.ct ρ) : ex np ts ρ Φ' :=
  fun σ H0 H G D S kn kr kb kc => h σ H0 H G D S (fun ρ σ A B q => kn ρ σ A B (h1 _ q)) (fun r ρ σ v f A B q => kr r ρ σ v f A B (h2 _ _ q)) (fun ρ σ A B q => kb ρ σ A B (h3 _ q)) fun ρ σ A B q => kc ρ σ A B (h4 _ q)
/-- x += e -/
theorem ex_aug {i : Nat} {g : Int → Int → Int} {n : Int} (hi : np ≤ i) (h0 : ρ[i]? = some (some (dat K (.int n)))) (h : ev te ρ fun r ρ1 => ∃ m, r = .val (dat K (.int m)) ∧ Φ.nx (ρ1.set i (some (dat K (.int (g n m)))))) : ex np (tAug i te (ipI g)) ρ Φ := by
  intro σ H0 H G D S kn _ _ _
  obtain ⟨v, f, e, r, d⟩ := S.get h0
  have hv := r.1
  cases hv
  refine ⟨.int n, e, h σ H0 H G _ S fun r ρ1 v f H1 H1' ⟨m, er, q⟩ p => ?_⟩
  subst er
  have hv := p.rt.1
  cases hv
  have S1 : Sat ρ1 σ H1 H1' fun a => G a ∨ False := p.sat.frame fun a ha => ha.elim .inl False.elim
  exact ⟨n, m, rfl, rfl, kn _ _ H1 H1' q (take_set hi) p.ext (S1.set (R := dat K (.int (g n m))) (v := .int (g n m)) ⟨.int _, fun _ h => h⟩ fun _ h => h.elim)⟩
end
end ML

namespace ML
open PySem PySem.Spec PyProof.Rows L2 KS GL LB
section
variable {K : PySem.W.Frag} {ρ : MS} {Q : Rt → MS → Prop} {Qb : Bool → MS → Prop} {ta tb te tc : TE} {t u : TT} {np : Nat} {Φ : Out} {ts us : TS}
/-! ### what is walked -/
/-- at turn i a datum comes -/
def Yd (K : PySem.W.Frag) (H0 : Hp) (item : Nat → PyData) : Nat → Hp → V → Hp → Prop := fun i H x H' => ∀ (ρ : MS) (σ : L2.St) (H0' : Hp) (G : FP), Same H0 H0' → Sat ρ σ H0' H G → ∃ H0'', Ext G H0' H H0'' H' ∧ Sat ρ σ H0'' H' G ∧ Da K H0'' x (item i)
def wk (K : PySem.W.Frag) (wi : TI) (ρ : MS) (C : Nat → (Nat → PyData) → MS → Prop) : Prop := ∀ (σ : L2.St) (H0 H : Hp) (G : FP) (k : It → Hp → Prop), Sat ρ σ H0 H G →
  (∀ n item ρ' J H0' H', C n item ρ' → Ext G H0 H H0' H' → Sat ρ' σ H0' H' G → Walk J n (fun H2 => Same H0' H2) (Yd K H0' item) → k J H') → wi σ H k
theorem yd_at {H0 : Hp} {vs : List V} {ds : List PyData} (h : DaAll K H0 vs ds) {i : Nat} {H H' : Hp} {x : V} (y : YAt vs i H x H') : Yd K H0 (fun i => ds.getD i .none) i H x H' := by
  obtain ⟨rfl, e⟩ := y
  intro ρ σ H0' G s S
  obtain ⟨d, e2, hd⟩ := h.get' e
  refine ⟨H0', Ext.refl, S, ?_⟩
  have : ds.getD i .none = d := by rw [List.getD_eq_getElem?_getD, e2]; rfl
  show Da K H0' x (ds.getD i .none)
  rw [this]
  exact Da.mono s _ _ hd
theorem wk_list {C : Nat → (Nat → PyData) → MS → Prop} (h : ev te ρ fun r ρ1 => ∃ ds ρ2, asD K ρ1 r (.list ds) ρ2 ∧ C ds.length (fun i => ds.getD i .none) ρ2) : wk K (iList K te) ρ C := by
  intro σ H0 H G k S hk
  refine h σ H0 H G _ S fun r ρ1 v f H1 H1' ⟨ds, ρ2, ha, q⟩ p => ?_
  obtain ⟨H0', s0, hda, S2⟩ := ha.go p.sat p.rt p.dis
  cases hda with
  | lst h1 h2 =>
    rename_i a vs
    have hl := S2.same _ _ h1
    refine ⟨a, rfl, ⟨vs, .inl (.inl hl)⟩, hk _ _ ρ2 _ H0' H1' q ⟨p.ext.s0.trans s0, p.ext.fr⟩ S2 ?_⟩
    rw [← h2.len]
    exact (walk_list (K := K) (a := a) (xs := vs)).mono (fun H s => .inl (.inl (s _ _ h1))) fun i H x H' _ _ y => yd_at h2 y
theorem wk_tup {C : Nat → (Nat → PyData) → MS → Prop} (h : ev te ρ fun r ρ1 => ∃ ds ρ2, asD K ρ1 r (.tuple ds) ρ2 ∧ C ds.length (fun i => ds.getD i .none) ρ2) : wk K (iTup K te) ρ C := by
  intro σ H0 H G k S hk
  refine h σ H0 H G _ S fun r ρ1 v f H1 H1' ⟨ds, ρ2, ha, q⟩ p => ?_
  obtain ⟨H0', s0, hda, S2⟩ := ha.go p.sat p.rt p.dis
  cases hda with
  | tup h1 h2 =>
    rename_i a vs
    refine ⟨a, rfl, ⟨vs, sameT S2.same h1⟩, hk _ _ ρ2 _ H0' H1' q ⟨p.ext.s0.trans s0, p.ext.fr⟩ S2 ?_⟩
    rw [← h2.len]
    exact (L2.walk_tup (K := K) (a := a) (xs := vs)).mono (fun H s => sameT s h1) fun i H x H' _ _ y => yd_at h2 y
theorem wk_rng1 {C : Nat → (Nat → PyData) → MS → Prop} (h : evD K ta' ρ fun ds ρ1 => ∃ j : Int, ds = [.int j] ∧ j < 2 ^ 62 ∧ -(2 ^ 62) ≤ j ∧ C j.toNat (fun i => .int i) ρ1) : wk K (iRng1 ta') ρ C := by
  intro σ H0 H G k S hk
  refine h σ H0 H G _ S fun ds ρ1 vs H1 H1' ⟨j, e, h1, h2, q⟩ e1 hd S1 => ?_
  subst e
  obtain ⟨⟩ | ⟨hj, ⟨⟩⟩ := hd
  cases hj
  refine ⟨j, rfl, h2, h1, hk _ _ ρ1 _ H1 H1' q e1 S1 ?_⟩
  refine (walk_range (lo := 0) (n := j.toNat)).mono (fun _ _ => True.intro) fun i H x H' _ _ y => ?_
  obtain ⟨rfl, rfl⟩ := y
  intro ρ σ H0' G s S
  refine ⟨H0', Ext.refl, S, ?_⟩
  show Da K H0' (.int (0 + i)) (.int i)
  rw [Int.zero_add]
  exact .int _
theorem wk_rng2 {ta' : TA} {C : Nat → (Nat → PyData) → MS → Prop} (h : evD K ta' ρ fun ds ρ1 => ∃ i j : Int, ds = [.int i, .int j] ∧ (-(2 ^ 62) ≤ i ∧ i < 2 ^ 62 ∧ -(2 ^ 62) ≤ j ∧ j < 2 ^ 62) ∧ C (j - i).toNat (fun x => .int (i + x)) ρ1) : wk K (iRng2 ta') ρ C := by
  intro σ H0 H G k S hk
  refine h σ H0 H G _ S fun ds ρ1 vs H1 H1' ⟨i, j, e, h1, q⟩ e1 hd S1 => ?_
  subst e
  obtain ⟨⟩ | ⟨hi, hd⟩ := hd
  obtain ⟨⟩ | ⟨hj, ⟨⟩⟩ := hd
  cases hi
  cases hj
  refine ⟨i, j, rfl, h1, hk _ _ ρ1 _ H1 H1' q e1 S1 ?_⟩
  refine (walk_range (lo := i) (n := (j - i).toNat)).mono (fun _ _ => True.intro) fun x H v H' _ _ y => ?_
  obtain ⟨rfl, rfl⟩ := y
  intro ρ σ H0' G s S
  exact ⟨H0', Ext.refl, S, .int _⟩
theorem wk_str {C : Nat → (Nat → PyData) → MS → Prop} (h : ev te ρ fun r ρ1 => ∃ z, r = .val (dat K (.str z)) ∧ C z.cps.size (fun i => .str ⟨#[z.cps.getD i 0]⟩) ρ1) : wk K (iStr te) ρ C := by
  intro σ H0 H G k S hk
  refine h σ H0 H G _ S fun r ρ1 v f H1 H1' ⟨z, e, q⟩ p => ?_
  subst e
  have hv := p.rt.1
  cases hv
  refine ⟨z, rfl, hk _ _ ρ1 _ H1 H1' q p.ext (p.sat.frame fun _ => .inl) ?_⟩
  refine (L2.walk_str (z := z)).mono (fun _ _ => True.intro) fun i H x H' _ _ y => ?_
  obtain ⟨rfl, c, e, rfl⟩ := y
  intro ρ σ H0' G s S
  refine ⟨H0', Ext.refl, S, ?_⟩
  have : z.cps.getD i 0 = c := by rw [Array.getD_eq_getD_getElem?, e]; rfl
  show Da K H0' (.str ⟨#[c]⟩) (.str ⟨#[z.cps.getD i 0]⟩)
  rw [this]
  exact .str _
/-! ### for -/
theorem ex_for {wi : TI} {g : TG} (h : wk K wi ρ fun n item ρ1 => ∃ I : Nat → MS → Prop, I 0 ρ1 ∧ (∀ i ρ', i < n → I i ρ' → ∃ l, (∀ j ∈ l, np ≤ j) ∧ tg l g (.val (dat K (item i))) ρ' fun ρ2 => ex np ts ρ2 ⟨I (i + 1), Φ.rt, Φ.nx, I (i + 1)⟩) ∧ ∀ ρ', I n ρ' → Φ.nx ρ') : ex np (tFor wi g ts) ρ Φ := by
  intro σ H0 H G D S kn kr kb kc
  refine h σ H0 H G _ S fun n item ρ1 J H1 H1' ⟨I, i0, step, fin⟩ e1 S1 w => ?_
  refine for_it w (fun i σ' H' => ∃ ρ' H0', I i ρ' ∧ σ'.take np = σ.take np ∧ Ext G H1 H1' H0' H' ∧ Sat ρ' σ' H0' H' G) ⟨ρ1, H1, i0, rfl, Ext.refl, S1⟩ (fun i σ' H' _ ⟨ρ', H0', _, _, e, S'⟩ => e.s0.trans S'.same) ?_ ?_
  · rintro i x σ' H' H'' hi ⟨ρ', H0', hI, ht, e2, S2⟩ y
    obtain ⟨H0'', e3, S3, hx⟩ := y ρ' σ' H0' G e2.s0 S2
    obtain ⟨l, hl, hg⟩ := step i ρ' hi hI
    refine hg σ' H0'' H'' G x (fun _ => False) _ (S3.frame fun a ha => ha.resolve_right id) ⟨hx, fun _ h => h⟩ (fun _ h => h.elim) fun ρ2 σ2 H2 H2' q2 t2 _ e4 S4 => ?_
    have t3 := (t2 np hl).trans ht
    have e5 := (e2.trans e3).trans e4
    have again : ∀ ρ3 σ3 H3 H3', I (i + 1) ρ3 → σ3.take np = σ2.take np → Ext G H2 H2' H3 H3' → Sat ρ3 σ3 H3 H3' G → ∃ ρ' H0', I (i + 1) ρ' ∧ σ3.take np = σ.take np ∧ Ext G H1 H1' H0' H3' ∧ Sat ρ' σ3 H0' H3' G := fun ρ3 σ3 H3 H3' q3 t4 e6 S5 => ⟨ρ3, H3, q3, t4.trans t3, e5.trans e6, S5⟩
    exact q2 σ2 H2 H2' G _ S4 again (fun r ρ3 σ3 v f H3 H3' q3 t4 p3 => kr r ρ3 σ3 v f H3 H3' q3 (t4.trans t3) (post_ext (e1.trans e5) p3)) (fun ρ3 σ3 H3 H3' q3 t4 e6 S5 => kn ρ3 σ3 H3 H3' q3 (t4.trans t3) ((e1.trans e5).trans e6) S5) again
  · rintro σ' H' ⟨ρ', H0', hI, ht, e2, S2⟩
    exact kn ρ' σ' H0' H' (fin ρ' hI) ht (e1.trans e2) S2
/-- by what has been taken of a list -/
theorem by_pre {α : Type} {xs : List α} {f : α → PyData} {P : Nat → PyData → (MS → Prop) → MS → Prop} {nx : MS → Prop} (I : List α → MS → Prop) {ρ1 : MS} (h0 : I [] ρ1) (hs : ∀ pre x post ρ', xs = pre ++ x :: post → I pre ρ' → P pre.length (f x) (I (pre ++ [x])) ρ') (hd : ∀ ρ', I xs ρ' → nx ρ') :
    ∃ I' : Nat → MS → Prop, I' 0 ρ1 ∧ (∀ i ρ', i < (xs.map f).length → I' i ρ' → P i ((xs.map f).getD i .none) (I' (i + 1)) ρ') ∧ ∀ ρ', I' (xs.map f).length ρ' → nx ρ' := by
  refine ⟨fun i => I (xs.take i), by simpa using h0, fun i ρ' hi hI => ?_, fun ρ' hI => ?_⟩
  · rw [List.length_map] at hi
    have e1 : xs = xs.take i ++ xs[i] :: xs.drop (i + 1) := by rw [List.getElem_cons_drop, List.take_append_drop]
    have e2 : (xs.map f).getD i .none = f xs[i] := by rw [List.getD_eq_getElem?_getD, List.getElem?_map, List.getElem?_eq_getElem hi]; rfl
    have e3 : xs.take (i + 1) = xs.take i ++ [xs[i]] := by rw [List.take_succ, List.getElem?_eq_getElem hi]; rfl
    have e4 : (xs.take i).length = i := by rw [List.length_take]; omega
    have := hs (xs.take i) xs[i] (xs.drop (i + 1)) ρ' e1 hI
    rw [e4] at this
    rw [e2]
    simp only [e3]
    exact this
  · rw [List.length_map, List.take_length] at hI
    exact hd ρ' hI
/-! ### while -/
theorem ex_while (I : Nat → MS → Prop) (h0 : ∃ m, I m ρ) (h : ∀ m ρ', I m ρ' → evT t ρ' fun b ρ1 => (b = true → ex np ts ρ1 ⟨fun ρ2 => ∃ m', m' < m ∧ I m' ρ2, Φ.rt, Φ.nx, fun ρ2 => ∃ m', m' < m ∧ I m' ρ2⟩) ∧ (b = false → Φ.nx ρ1)) : ex np (tWhile t ts) ρ Φ := by
  intro σ H0 H G D S kn kr kb kc
  refine ⟨fun m σ' H' => ∃ ρ' H0', I m ρ' ∧ σ'.take np = σ.take np ∧ Ext G H0 H H0' H' ∧ Sat ρ' σ' H0' H' G, ?_, ?_⟩
  · obtain ⟨m, hm⟩ := h0
    exact ⟨m, ρ, H0, hm, rfl, Ext.refl, S⟩
  · rintro m σ' H' ⟨ρ', H0', hI, ht, e1, S1⟩
    refine h m ρ' hI σ' H0' H' G _ S1 fun b ρ1 H1 H1' ⟨q1, q2⟩ e2 S2 => ?_
    have e12 := e1.trans e2
    cases b with
    | false => exact iteF (kn ρ1 σ' H1 H1' (q2 rfl) ht e12 S2)
    | true =>
      refine iteT ⟨fun σ2 H2' => ∃ m', m' < m ∧ ∃ ρ2 H2, I m' ρ2 ∧ σ2.take np = σ.take np ∧ Ext G H0 H H2 H2' ∧ Sat ρ2 σ2 H2 H2' G, fun σ2 H2' ⟨m', hm, z⟩ => ⟨m', hm, z⟩, ?_⟩
      have again : ∀ ρ2 σ2 H2 H2', (∃ m', m' < m ∧ I m' ρ2) → σ2.take np = σ'.take np → Ext G H1 H1' H2 H2' → Sat ρ2 σ2 H2 H2' G → ∃ m', m' < m ∧ ∃ ρ2 H2, I m' ρ2 ∧ σ2.take np = σ.take np ∧ Ext G H0 H H2 H2' ∧ Sat ρ2 σ2 H2 H2' G := fun ρ2 σ2 H2 H2' ⟨m', hm, q⟩ t2 e3 S3 => ⟨m', hm, ρ2, H2, q, t2.trans ht, e12.trans e3, S3⟩
      exact q1 rfl σ' H1 H1' G _ S2 again (fun r ρ3 σ3 v f H3 H3' q3 t4 p3 => kr r ρ3 σ3 v f H3 H3' q3 (t4.trans ht) (post_ext e12 p3)) (fun ρ3 σ3 H3 H3' q3 t4 e6 S5 => kn ρ3 σ3 H3 H3' q3 (t4.trans ht) (e12.trans e6) S5) again
/-! ### comprehensions -/
def wipeM (ρ : MS) : List Nat → MS
  | [] => ρ
  | v :: vs => (wipeM ρ vs).set v none
theorem Sat.wipe {σ : L2.St} {H0 H : Hp} {G : FP} (S : Sat ρ σ H0 H G) : ∀ vs : List Nat, Sat (wipeM ρ vs) (L2.wipe σ vs) H0 H G
  | [] => S
  | v :: vs => (Sat.wipe S vs).forget v none
theorem Sat.unwipe {σ : L2.St} {H0 H : Hp} {G : FP} {vs : List Nat} (S : Sat ρ (L2.wipe σ vs) H0 H G) : Sat ρ σ H0 H G := by
  obtain ⟨F, h1, h2, h3, h4⟩ := S.sl
  refine ⟨S.same, by rw [← wipe_length σ vs]; exact S.len, S.fr, F, fun i R hR => ?_, h2, h3, h4⟩
  obtain ⟨v, e, r⟩ := h1 i R hR
  exact ⟨v, (wipe_some e).1, r⟩
theorem wipe_sub {σ : L2.St} {vs : List Nat} : ∀ {ws : List Nat}, (∀ i ∈ ws, i ∈ vs) → L2.wipe (L2.wipe σ ws) vs = L2.wipe σ vs
  | [], _ => rfl
  | w :: ws, h => by
    show L2.wipe ((L2.wipe σ ws).set w none) vs = _
    rw [wipe_set (h w List.mem_cons_self), wipe_sub fun i hi => h i (List.mem_cons_of_mem _ hi)]
theorem wipe_wipe (σ : L2.St) (vs : List Nat) : L2.wipe (L2.wipe σ vs) vs = L2.wipe σ vs := wipe_sub fun _ h => h
theorem lc_gen {wi : TI} {g : TG} {vs : List Nat} {k : VK} {σ : L2.St} {H0 H : Hp} {G : FP} (S : Sat ρ σ H0 H G) (C : List PyData → MS → Prop)
    (h : wk K wi ρ fun n item ρ1 => n ≤ sizeLine ∧ ∃ I : Nat → List PyData → MS → Prop, I 0 [] (wipeM ρ1 vs) ∧ (∀ i ds ρ', i < n → I i ds ρ' → ∃ l, (∀ j ∈ l, j ∈ vs) ∧ tg l g (.val (dat K (item i))) ρ' fun ρ2 => evT t ρ2 fun b ρ3 => (b = true → ev te ρ3 fun r ρ4 => ∃ d ρ5, asD K ρ4 r d ρ5 ∧ I (i + 1) (ds ++ [d]) (wipeM ρ5 vs)) ∧ (b = false → I (i + 1) ds (wipeM ρ3 vs))) ∧ ∀ ds ρ', I n ds ρ' → C ds ρ')
    (hk : ∀ ds ρ' D H0' H' acc, C ds ρ' → Ext G H0 H H0' H' → Sat ρ' σ H0' H' (fun a => G a ∨ a = D) → H' D = some (.lst acc) → DaAll K H0' acc ds → ¬ G D → k (.ref D) H') : tLc wi g t te vs σ H k := by
  refine h σ H0 H G _ S fun n item ρ1 J H1 H1' ⟨hn, I, i0, step, fin⟩ e1 S1 w D hD => ?_
  have hDG : ¬ G D := fun e => (S1.fr D e).1 hD
  have S1' : Sat (wipeM ρ1 vs) (L2.wipe σ vs) H1 (upd H1' D (.lst [])) fun a => G a ∨ a = D := (S1.wipe vs).own hD
  refine lc_it w (fun i H' => ∃ ρ' H0' acc ds, I i ds ρ' ∧ ds.length ≤ i ∧ Ext G H1 H1' H0' H' ∧ Sat ρ' (L2.wipe σ vs) H0' H' (fun a => G a ∨ a = D) ∧ H' D = some (.lst acc) ∧ DaAll K H0' acc ds) ?_ (fun i H' _ ⟨ρ', H0', acc, ds, _, _, e, S', _⟩ => e.s0.trans S'.same) ?_ ?_
  · exact ⟨_, H1, [], [], i0, Nat.le_refl _, ⟨Same.refl _, fun a ha => upd_ne fun e => hDG (e ▸ ha)⟩, S1', upd_same, .nil⟩
  · rintro i x H' H'' hi ⟨ρ', H0', acc, ds, hI, hl, e2, S2, hacc, hds⟩ y
    obtain ⟨H0'', e3, S3, hx⟩ := y ρ' _ H0' _ e2.s0 S2
    obtain ⟨l, hlv, hg⟩ := step i ds ρ' hi hI
    refine hg _ H0'' H'' _ x (fun _ => False) _ (S3.frame fun a ha => ha.resolve_right id) ⟨hx, fun _ h => h⟩ (fun _ h => h.elim) fun ρ2 σ2 H2 H2' q2 _ w2 e4 S4 => ?_
    have hw : L2.wipe σ2 vs = L2.wipe σ vs := by
      rw [w2 vs hlv]
      exact wipe_wipe σ vs
    refine ⟨hw, ?_⟩
    refine q2 σ2 H2 H2' _ _ S4 fun b ρ3 H3 H3' ⟨q3, q4⟩ e5 S5 => ?_
    have e35 := (e3.trans e4).trans e5
    have hacc3 : H3' D = some (.lst acc) := by rw [e35.fr D (.inr rfl)]; exact hacc
    cases b with
    | false =>
      refine iteF ⟨_, H3, acc, ds, q4 rfl, Nat.le_succ_of_le hl, e2.trans (e35.weak fun _ => .inl), ?_, hacc3, DaAll.mono e35.s0 _ _ hds⟩
      have := S5.wipe vs
      rwa [hw] at this
    | true =>
      refine iteT (q3 rfl σ2 H3 H3' _ _ S5 fun r ρ4 v f H4 H4' ⟨d, ρ5, ha, q⟩ p4 => ?_)
      obtain ⟨H5, s5, hda, S6⟩ := ha.go p4.sat p4.rt p4.dis
      have hacc4 : H4' D = some (.lst acc) := by rw [p4.ext.fr D (.inr rfl)]; exact hacc3
      have hlen : acc.length < sizeLine := by rw [hds.len]; omega
      refine ⟨acc, hacc4, hlen, _, H5, acc ++ [v], ds ++ [d], q, ?_, ?_, ?_, upd_same, ?_⟩
      · rw [List.length_append]
        simp
        omega
      · refine ⟨((e2.s0.trans e35.s0).trans p4.ext.s0).trans s5, fun a ha => ?_⟩
        rw [upd_ne (show a ≠ D from fun e => hDG (e ▸ ha)), p4.ext.fr a (.inl ha), e35.fr a (.inl ha), e2.fr a ha]
      · have S7 := S6.wipe vs
        rw [hw] at S7
        refine S7.mut (fun a ha => upd_ne ha) fun a ha => ?_
        rw [ha, upd_same]
        exact Option.some_ne_none _
      · exact DaAll.append (DaAll.mono ((e35.s0.trans p4.ext.s0).trans s5) _ _ hds) (.cons hda .nil)
  · rintro H' ⟨ρ', H0', acc, ds, hI, hl, e2, S2, hacc, hds⟩
    exact hk ds ρ' D H0' H' acc (fin ds ρ' hI) (e1.trans e2) S2.unwipe hacc hds hDG
end
end ML

namespace ML
open PySem PySem.Spec PyProof.Rows L2 KS GL LB
section
variable {K : PySem.W.Frag} {ρ : MS} {Q : Rt → MS → Prop} {Qb : Bool → MS → Prop} {ta tb te tc : TE} {t u : TT} {np : Nat} {Φ : Out} {ts us : TS}
/-- a comprehension's turns -/
def lcH (K : PySem.W.Frag) (wi : TI) (g : TG) (t : TT) (te : TE) (vs : List Nat) (ρ : MS) (C : List PyData → MS → Prop) : Prop :=
  wk K wi ρ fun n item ρ1 => n ≤ sizeLine ∧ ∃ I : Nat → List PyData → MS → Prop, I 0 [] (wipeM ρ1 vs) ∧ (∀ i ds ρ', i < n → I i ds ρ' → ∃ l, (∀ j ∈ l, j ∈ vs) ∧ tg l g (.val (dat K (item i))) ρ' fun ρ2 => evT t ρ2 fun b ρ3 => (b = true → ev te ρ3 fun r ρ4 => ∃ d ρ5, asD K ρ4 r d ρ5 ∧ I (i + 1) (ds ++ [d]) (wipeM ρ5 vs)) ∧ (b = false → I (i + 1) ds (wipeM ρ3 vs))) ∧ ∀ ds ρ', I n ds ρ' → C ds ρ'
/-- a comprehension's list stands -/
theorem ev_lc {wi : TI} {g : TG} {vs : List Nat} (h : lcH K wi g t te vs ρ fun ds ρ' => Q (.val (dat K (.list ds))) ρ') : ev (tLc wi g t te vs) ρ Q := by
  intro σ H0 H G k S hk
  refine lc_gen S _ h fun ds ρ' D H0' H' acc q e S' hD hds hG => ?_
  have h0 := (S'.fr D (.inr rfl)).2
  have S0 := same_upd (o := .lst acc) h0
  have S2 := S'.freeze (G' := fun a => a = D) hD hG rfl
  exact hk _ ρ' _ (fun _ => False) _ _ q ⟨⟨e.s0.trans S0, e.fr⟩, ⟨.lst upd_same (DaAll.mono S0 _ _ hds), fun _ h => h⟩, fun _ h => h.elim, S2.frame fun a ha => ha.resolve_right id⟩
/-- .. is one's own -/
theorem ev_lcO {wi : TI} {g : TG} {vs : List Nat} (h : lcH K wi g t te vs ρ fun ds ρ' => Q (.val (lo K ds)) ρ') : ev (tLc wi g t te vs) ρ Q := by
  intro σ H0 H G k S hk
  refine lc_gen S _ h fun ds ρ' D H0' H' acc q e S' hD hds hG => ?_
  exact hk _ ρ' _ (fun a => a = D) _ _ q ⟨e, ⟨D, acc, rfl, fun _ => Iff.rfl, (S'.fr D (.inr rfl)).2, hD, hds⟩, fun a e => e ▸ hG, S'⟩
/-- by what has been taken of a list -/
theorem by_pre2 {α : Type} {xs : List α} {f : α → PyData} {P : Nat → PyData → List PyData → (List PyData → MS → Prop) → MS → Prop} {C : List PyData → MS → Prop} (I : List α → List PyData → MS → Prop) {ρ1 : MS} (h0 : I [] [] ρ1) (hs : ∀ pre x post ds ρ', xs = pre ++ x :: post → I pre ds ρ' → P pre.length (f x) ds (I (pre ++ [x])) ρ') (hd : ∀ ds ρ', I xs ds ρ' → C ds ρ') :
    ∃ I' : Nat → List PyData → MS → Prop, I' 0 [] ρ1 ∧ (∀ i ds ρ', i < (xs.map f).length → I' i ds ρ' → P i ((xs.map f).getD i .none) ds (I' (i + 1)) ρ') ∧ ∀ ds ρ', I' (xs.map f).length ds ρ' → C ds ρ' := by
  refine ⟨fun i => I (xs.take i), by simpa using h0, fun i ds ρ' hi hI => ?_, fun ds ρ' hI => ?_⟩
  · rw [List.length_map] at hi
    have e1 : xs = xs.take i ++ xs[i] :: xs.drop (i + 1) := by rw [List.getElem_cons_drop, List.take_append_drop]
    have e2 : (xs.map f).getD i .none = f xs[i] := by rw [List.getD_eq_getElem?_getD, List.getElem?_map, List.getElem?_eq_getElem hi]; rfl
    have e3 : xs.take (i + 1) = xs.take i ++ [xs[i]] := by rw [List.take_succ, List.getElem?_eq_getElem hi]; rfl
    have e4 : (xs.take i).length = i := by rw [List.length_take]; omega
    have := hs (xs.take i) xs[i] (xs.drop (i + 1)) ds ρ' e1 hI
    rw [e4] at this
    rw [e2]
    simp only [e3]
    exact this
  · rw [List.length_map, List.take_length] at hI
    exact hd ds ρ' hI
/-- a comprehension whose turns leave all as it is: filter and map -/
theorem lcH_pure {α : Type} {wi : TI} {g : TG} {vs : List Nat} {C : List PyData → MS → Prop} (xs : List α) (f : α → PyData) (p : α → Bool) (h : α → PyData) (ρ1 : MS) (hl : xs.length ≤ sizeLine)
    (hw : wk K wi ρ fun n item ρ2 => n = (xs.map f).length ∧ (∀ i, i < n → item i = (xs.map f).getD i .none) ∧ wipeM ρ2 vs = ρ1)
    (hs : ∀ x ∈ xs, ∃ l, (∀ j ∈ l, j ∈ vs) ∧ tg l g (.val (dat K (f x))) ρ1 fun ρ2 => evT t ρ2 fun b ρ3 => b = p x ∧ (p x = false → wipeM ρ3 vs = ρ1) ∧ (p x = true → ev te ρ3 fun r ρ4 => r = .val (dat K (h x)) ∧ wipeM ρ4 vs = ρ1))
    (hC : C ((xs.filter p).map h) ρ1) : lcH K wi g t te vs ρ C := by
  intro σ H0 H G k S hk
  refine hw σ H0 H G k S fun n item ρ' J H0' H' ⟨en, ei, er⟩ e S' w => hk n item ρ' J H0' H' ?_ e S' w
  subst en
  refine ⟨by rw [List.length_map]; exact hl, ?_⟩
  obtain ⟨I', i0, st, fin⟩ := by_pre2 (xs := xs) (f := f) (C := C) (P := fun i d ds N ρ' => ∃ l, (∀ j ∈ l, j ∈ vs) ∧ tg l g (.val (dat K d)) ρ' fun ρ2 => evT t ρ2 fun b ρ3 => (b = true → ev te ρ3 fun r ρ4 => ∃ d ρ5, asD K ρ4 r d ρ5 ∧ N (ds ++ [d]) (wipeM ρ5 vs)) ∧ (b = false → N ds (wipeM ρ3 vs)))
    (fun pre ds ρ' => ds = (pre.filter p).map h ∧ ρ' = ρ1) (ρ1 := wipeM ρ' vs) ⟨rfl, er⟩ (fun pre x post ds ρ2 e ⟨hds, hρ⟩ => by
      subst hds hρ
      obtain ⟨l, hl, ht⟩ := hs x (by rw [e]; simp)
      refine ⟨l, hl, fun σ H0 H G v f k S hr hd hk => ht σ H0 H G v f k S hr hd fun ρ3 σ' H0' H' q => hk ρ3 σ' H0' H' ?_⟩
      refine evT_mono q fun b ρ4 ⟨hb, q1, q2⟩ => ⟨fun h1 => ?_, fun h1 => ?_⟩
      · rw [h1] at hb
        refine ev_mono (q2 hb.symm) fun r ρ5 ⟨er, e5⟩ => ⟨h x, ρ5, er ▸ .val, ?_, e5⟩
        rw [List.filter_append, List.map_append]
        simp [List.filter_cons, ← hb]
      · rw [h1] at hb
        refine ⟨?_, q1 hb.symm⟩
        rw [List.filter_append, List.map_append]
        simp [List.filter_cons, ← hb]) (fun ds ρ2 ⟨hds, hρ⟩ => by rw [hds, hρ]; exact hC)
  refine ⟨I', i0, fun i ds ρ2 hi hI => ?_, fin⟩
  rw [ei i hi]
  exact st i ds ρ2 hi hI
/-! ### defs -/
abbrev MSp := List Res → (Res → List Res → Prop) → Prop
/-- a def's promise: of what is known of its arguments (the first np ones are handed back, as they are then) -/
def spOf (np : Nat) (M : MSp) : Sp := fun vs H Q _ => ∃ (Rs : List Res) (H0 : Hp) (G : FP) (q : Res → List Res → Prop), Sat (Rs.map some) (vs.map some) H0 H G ∧ M Rs q ∧
  ∀ R Rs', q R Rs' → ∀ v f H0' H', Ext G H0 H H0' H' → R.holds H0' H' v f → (∀ a, f a → ¬ G a) → Sat (Rs'.map some) ((vs.take np).map some) H0' H' (fun a => G a ∨ f a) → Q v H'
/-- what is given back -/
def retR (np : Nat) (r : Rt) (ρ : MS) (R : Res) (Rs' : List Res) : Prop := ∀ (σ : L2.St) (H0 H : Hp) (G : FP) (v : V) (f : FP), Sat ρ σ H0 H (fun a => G a ∨ f a) → RtH r σ H0 H v f → (∀ a, f a → ¬ G a) →
  ∃ H0' f', Same H0 H0' ∧ R.holds H0' H v f' ∧ (∀ a, f' a → ¬ G a) ∧ Sat (Rs'.map some) (σ.take np) H0' H fun a => G a ∨ f' a
theorem Sat.takeN {σ : L2.St} {H0 H : Hp} {G : FP} (S : Sat ρ σ H0 H G) (n : Nat) : Sat (ρ.take n) (σ.take n) H0 H G := by
  obtain ⟨F, h1, h2, h3, h4⟩ := S.sl
  have lt : ∀ {i : Nat} {R : Res}, (ρ.take n)[i]? = some (some R) → i < n ∧ ρ[i]? = some (some R) := fun {i R} h => by
    rw [List.getElem?_take] at h
    split at h
    · exact ⟨‹_›, h⟩
    · cases h
  refine ⟨S.same, by rw [List.length_take, List.length_take, S.len], S.fr, fun i => if i < n then F i else fun _ => False, fun i R hR => ?_, fun i j a ha hb => ?_, fun i a ha => ?_, fun i a ha => ?_⟩
  · obtain ⟨hi, hR⟩ := lt hR
    obtain ⟨v, e, r⟩ := h1 i R hR
    refine ⟨v, by rw [List.getElem?_take, if_pos hi]; exact e, ?_⟩
    simp only [hi, if_true]
    exact r
  · by_cases hi : i < n
    · by_cases hj : j < n
      · simp only [hi, hj, if_true] at ha hb
        exact h2 i j a ha hb
      · simp only [hj, if_false] at hb
    · simp only [hi, if_false] at ha
  · by_cases hi : i < n
    · simp only [hi, if_true] at ha
      exact h3 i a ha
    · simp only [hi, if_false] at ha
  · by_cases hi : i < n
    · simp only [hi, if_true] at ha
      obtain ⟨R, hR⟩ := h4 i a ha
      exact ⟨R, by rw [List.getElem?_take, if_pos hi]; exact hR⟩
    · simp only [hi, if_false] at ha
theorem ret_val {R : Res} {Rs' : List Res} (h : ρ.take np = Rs'.map some) : retR np (.val R) ρ R Rs' := fun σ H0 H G v f S hr hd => ⟨H0, f, Same.refl _, hr, hd, by rw [← h]; exact S.takeN np⟩
theorem take_set_none {α : Type} {l : List α} {i n : Nat} {x : α} (h : n ≤ i) : (l.set i x).take n = l.take n := take_set h
theorem ret_at {i : Nat} {R : Res} {Rs' : List Res} (e : ρ[i]? = some (some R)) (hi : np ≤ i) (h : ρ.take np = Rs'.map some) : retR np (.at i) ρ R Rs' := fun σ H0 H G v f S hr hd => by
  have S1 : Sat ρ σ H0 H G := S.frame fun _ => .inl
  obtain ⟨w, f', e1, r, d', S2⟩ := S1.take e
  obtain rfl : w = v := Option.some.inj (Option.some.inj (e1.symm.trans hr.1))
  refine ⟨H0, f', Same.refl _, r, d', ?_⟩
  have := S2.takeN np
  rwa [take_set hi, h] at this
theorem ret_dat {r : Rt} {d : PyData} {ρ' : MS} {Rs' : List Res} (a : asD K ρ r d ρ') (h : ρ'.take np = Rs'.map some) : retR np r ρ (dat K d) Rs' := fun σ H0 H G v f S hr hd => by
  obtain ⟨H0', s0, hda, S2⟩ := a.go S hr hd
  exact ⟨H0', fun _ => False, s0, ⟨hda, fun _ h => h⟩, fun _ h => h.elim, by rw [← h]; exact (S2.takeN np).frame fun a ha => ha.resolve_right id⟩
/-- the ends of a def's body -/
def outF (np : Nat) (K : PySem.W.Frag) (k : Res → List Res → Prop) : Out := ⟨fun ρ' => ∃ Rs', retR np (.val (dat K .none)) ρ' (dat K .none) Rs' ∧ k (dat K .none) Rs', fun r ρ' => ∃ R Rs', retR np r ρ' R Rs' ∧ k R Rs', fun _ => False, fun _ => False⟩
theorem fn_ml {P : Program} {w : World} {mg : Str → Option Value} {base : Heap} {k : Nat} {f : Addr} {fd : FuncData} {ps N : List Str} {x qual : Str} {st : Stmt} {M : MSp} (F : Fun K x qual st f fd) (S : FnScope N ps (defScope st)) (hl : ∀ Rs q, M Rs q → Rs.length = ps.length) (hnp : np ≤ ps.length)
    (body : ∀ (cdv : Value) (A : Around) (outer : List Env) (s : Shared) (H : Hp) (E : XK), RoomG k (A.deeper (envOfC qual (defScope st) s.heap.objs.size f cdv)) →
      ∃ t, PSs (cxOf CX0 P w K mg base N qual (defScope st) f cdv A outer s H E).nox (defBody st) t ∧ ∀ Rs q, M Rs q → ex np t (Rs.map some ++ List.replicate (N.length - Rs.length) none) (outF np K q)) : FnG P w K mg base CX0 (k + 1) f fd ps (spOf np M) := by
  have len : ∀ vs H Q E, spOf np M vs H Q E → vs.length = ps.length := fun vs H Q E ⟨Rs, H0, G, q, S, m, _⟩ => by
    have := S.len
    rw [List.length_map, List.length_map] at this
    rw [this, hl _ _ m]
  refine okG F S len fun cdv A outer s H vs Q E hr h => ?_
  obtain ⟨t, ht, hx⟩ := body cdv A outer s H E hr
  refine ⟨t, ht, ?_⟩
  have hv := len _ _ _ _ h
  obtain ⟨Rs, H0, G, q0, S0, m, hq⟩ := h
  have hlen : vs.length = Rs.length := by
    have := S0.len
    rwa [List.length_map, List.length_map] at this
  have S1 : Sat (Rs.map some ++ List.replicate (N.length - Rs.length) none) (L2.start N vs) H0 H G := by
    obtain ⟨F, h1, h2, h3, h4⟩ := S0.sl
    have lt : ∀ {i : Nat} {R : Res}, (Rs.map some ++ List.replicate (N.length - Rs.length) none)[i]? = some (some R) → (Rs.map some)[i]? = some (some R) := fun {i R} h => by
      by_cases hi : i < (Rs.map some).length
      · rwa [List.getElem?_append_left hi] at h
      · rw [List.getElem?_append_right (by omega), List.getElem?_replicate] at h
        split at h <;> cases h
    unfold L2.start
    refine ⟨S0.same, by simp [hlen], S0.fr, F, fun i R hR => ?_, h2, h3, fun i a ha => ?_⟩
    · obtain ⟨v, e, r⟩ := h1 i R (lt hR)
      have hi : i < (vs.map some).length := by
        rcases Nat.lt_or_ge i (vs.map some).length with h | h
        · exact h
        · rw [List.getElem?_eq_none h] at e; cases e
      exact ⟨v, by rw [List.getElem?_append_left hi]; exact e, r⟩
    · obtain ⟨R, e⟩ := h4 i a ha
      have hi : i < (Rs.map some).length := by
        rcases Nat.lt_or_ge i (Rs.map some).length with h | h
        · exact h
        · rw [List.getElem?_eq_none h] at e; cases e
      exact ⟨R, by rw [List.getElem?_append_left hi]; exact e⟩
  have tk : (L2.start N vs).take np = (vs.take np).map some := by
    unfold L2.start
    rw [List.take_append_of_le_length (by rw [List.length_map]; omega), List.map_take]
  refine hx Rs q0 m (L2.start N vs) H0 H G _ S1 ?_ ?_ (fun _ _ _ _ z => z.elim) fun _ _ _ _ z => z.elim
  · rintro ρ' σ' H0' H' ⟨Rs', hret, q⟩ ht e S'
    obtain ⟨H0'', f', s0, hR, hd, S2⟩ := hret σ' H0' H' G .non (fun _ => False) (S'.frame fun a ha => ha.resolve_right id) ⟨.non, fun _ h => h⟩ fun _ h => h.elim
    refine hq _ _ q _ f' H0'' H' ⟨e.s0.trans s0, e.fr⟩ hR hd ?_
    rwa [ht, tk] at S2
  · rintro r ρ' σ' v f H0' H' ⟨R, Rs', hret, q⟩ ht p
    obtain ⟨H0'', f', s0, hR, hd, S2⟩ := hret σ' H0' H' G v f p.sat p.rt p.dis
    refine hq _ _ q _ f' H0'' H' ⟨p.ext.s0.trans s0, p.ext.fr⟩ hR hd ?_
    rwa [ht, tk] at S2
/-! ### calls -/
/-- all that the slots own -/
def owned (F : Nat → FP) : FP := fun a => ∃ i, F i a
theorem rts_pure {σ : L2.St} {H0 H : Hp} : ∀ {Ps : List Pd} {vs : List V} {f : FP}, RtsH (Ps.map fun P => .val (pu P)) σ H0 H vs f → vs.length = Ps.length ∧ ∀ (i : Nat) (P : Pd), Ps[i]? = some P → ∃ v, vs[i]? = some v ∧ P.p H0 v
  | [], vs, f, h => by
    obtain rfl : vs = [] := h.1
    exact ⟨rfl, fun i P e => by simp at e⟩
  | P :: Ps, vs, f, h => by
    obtain ⟨v, vs', f1, f2, rfl, r1, r2, _⟩ := h
    obtain ⟨l, g⟩ := rts_pure r2
    refine ⟨by rw [List.length_cons, List.length_cons, l], fun i P' e => ?_⟩
    cases i with
    | zero =>
      cases e
      exact ⟨v, rfl, r1.1⟩
    | succ i => exact g i P' e
def call0 (M : MSp) (rs : List Rt) (ρ : MS) (Q : Rt → MS → Prop) : Prop := ∃ Ps : List Pd, rs = Ps.map (fun P => .val (pu P)) ∧ M (Ps.map pu) fun R _ => Q (.val R) ρ
def call1 (M : MSp) (rs : List Rt) (ρ : MS) (Q : Rt → MS → Prop) : Prop := ∃ (i : Nat) (R0 : Res) (Ps : List Pd), rs = .at i :: Ps.map (fun P => .val (pu P)) ∧ ρ[i]? = some (some R0) ∧ M (R0 :: Ps.map pu) fun R Rs' => ∃ R0', Rs' = [R0'] ∧ Q (.val R) (ρ.set i (some R0'))
/-- a call whose arguments all stand -/
theorem ev_call {M : MSp} {ta : TA} (h : evA ta ρ fun rs ρ1 => call0 M rs ρ1 Q) : ev (tCall (spOf 0 M) [] E0 ta) ρ Q := by
  intro σ H0 H G k S hk
  refine h σ H0 H G _ S fun rs ρ1 vs f H1 H1' ⟨Ps, ers, m⟩ p => ?_
  subst ers
  rw [List.append_nil]
  have S1 := p.sat.frame (G' := G) fun _ => .inl
  obtain ⟨F, h1, h2, h3, h4⟩ := S1.sl
  have lvF : ∀ i a, F i a → H1' a ≠ none ∧ H1 a = none := fun i a ha => by
    obtain ⟨R, hR⟩ := h4 i a ha
    obtain ⟨v, _, r⟩ := h1 i R hR
    exact R.live r ha
  obtain ⟨la, ga⟩ := rts_pure p.rt
  refine ⟨Ps.map pu, H1, fun a => G a ∨ owned F a, _, ⟨S1.same, by simp [la], fun a ha => ha.elim (S1.fr a) fun ⟨i, hi⟩ => lvF i a hi, fun _ _ => False, fun i R hR => ?_, fun _ _ _ h => h.elim, fun _ _ h => h.elim, fun _ _ h => h.elim⟩, m, fun R Rs' q v f H2 H2' e r hd S2 => ?_⟩
  · rw [List.map_map, List.getElem?_map] at hR
    cases e : Ps[i]? with
    | none => rw [e] at hR; cases hR
    | some P =>
      rw [e] at hR
      obtain rfl : pu P = R := Option.some.inj (Option.some.inj hR)
      obtain ⟨v, ev, hv⟩ := ga i P e
      exact ⟨v, by rw [List.getElem?_map, ev]; rfl, hv, fun _ h => h⟩
  · refine hk (.val R) ρ1 v f H2 H2' q ⟨⟨p.ext.s0.trans e.s0, fun a ha => (e.fr a (.inl ha)).trans (p.ext.fr a ha)⟩, r, fun a ha hg => hd a ha (.inl hg), S2.same, S1.len, fun a ha => ha.elim (fun hg => S2.fr a (.inl (.inl hg))) fun hf => S2.fr a (.inr hf), F, fun i R' hR => ?_, h2, fun i a ha hg => hg.elim (h3 i a ha) fun hf => hd a hf (.inr ⟨i, ha⟩), h4⟩
    obtain ⟨w, ew, rw_⟩ := h1 i R' hR
    exact ⟨w, ew, R'.loc rw_ e.s0 fun a ha => ⟨e.fr a (.inr ⟨i, ha⟩), (S2.fr a (.inl (.inr ⟨i, ha⟩))).2⟩⟩
/-- a call whose first argument is a thing of one's own, handed back changed -/
theorem ev_call1 {M : MSp} {ta : TA} (h : evA ta ρ fun rs ρ1 => call1 M rs ρ1 Q) : ev (tCall (spOf 1 M) [] E0 ta) ρ Q := by
  intro σ H0 H G k S hk
  refine h σ H0 H G _ S fun rs ρ1 vs f H1 H1' ⟨i0, R0, Ps, ers, e0, m⟩ p => ?_
  subst ers
  rw [List.append_nil]
  obtain ⟨v0, vs', f1, f2, rfl, r0, rr, hu, _⟩ := p.rt
  have S1 := p.sat.frame (G' := G) fun _ => .inl
  obtain ⟨w0, fo, ew, ro, dno, St⟩ := S1.take e0
  obtain rfl : w0 = v0 := Option.some.inj (Option.some.inj (ew.symm.trans r0.1))
  have hi0 : i0 < ρ1.length := by
    rcases Nat.lt_or_ge i0 ρ1.length with z | z
    · exact z
    · rw [List.getElem?_eq_none z] at e0
      cases e0
  obtain ⟨F, h1, h2, h3, h4⟩ := St.sl
  have lvF : ∀ i a, F i a → H1' a ≠ none ∧ H1 a = none := fun i a ha => by
    obtain ⟨R, hR⟩ := h4 i a ha
    obtain ⟨v, _, r⟩ := h1 i R hR
    exact R.live r ha
  obtain ⟨la, ga⟩ := rts_pure rr
  refine ⟨R0 :: Ps.map pu, H1, fun a => G a ∨ owned F a, _, ⟨S1.same, by simp [la], fun a ha => ha.elim (S1.fr a) fun ⟨i, hi⟩ => lvF i a hi, fun j => if j = 0 then fo else fun _ => False, fun i R hR => ?_, fun i j a ha hb => ?_, fun i a ha hg => ?_, fun i a ha => ?_⟩, m, fun R Rs' q v f H2 H2' e r hd S2 => ?_⟩
  · cases i with
    | zero =>
      obtain rfl : R0 = R := Option.some.inj (Option.some.inj hR)
      exact ⟨w0, rfl, ro⟩
    | succ i =>
      rw [List.map_cons, List.getElem?_cons_succ, List.map_map, List.getElem?_map] at hR
      cases e : Ps[i]? with
      | none => rw [e] at hR; cases hR
      | some P =>
        rw [e] at hR
        obtain rfl : pu P = R := Option.some.inj (Option.some.inj hR)
        obtain ⟨v, ev, hv⟩ := ga i P e
        exact ⟨v, by rw [List.map_cons, List.getElem?_cons_succ, List.getElem?_map, ev]; rfl, hv, fun _ h => h⟩
  · by_cases hi : i = 0 <;> by_cases hj : j = 0
    · rw [hi, hj]
    · simp only [hj, if_false] at hb
    · simp only [hi, if_false] at ha
    · simp only [hi, if_false] at ha
  · by_cases hi : i = 0
    · simp only [hi, if_true] at ha
      rcases hg with hg | ⟨j, hj⟩
      · exact dno a ha hg
      · exact h3 j a hj (.inr ha)
    · simp only [hi, if_false] at ha
  · by_cases hi : i = 0
    · subst hi
      exact ⟨R0, rfl⟩
    · simp only [hi, if_false] at ha
  · obtain ⟨R0', eR, q⟩ := q
    subst eR
    -- the thing as it is now
    obtain ⟨v1, fn, ev1, rn, dnn, Sn⟩ := S2.take (i := 0) (R := R0') rfl
    obtain rfl : w0 = v1 := Option.some.inj (Option.some.inj ev1)
    refine hk (.val R) _ v f H2 H2' q ⟨⟨p.ext.s0.trans e.s0, fun a ha => (e.fr a (.inl ha)).trans (p.ext.fr a ha)⟩, r, fun a ha hg => hd a ha (.inl hg), ?_⟩
    have Sb : Sat (ρ1.set i0 none) σ H2 H2' fun a => (G a ∨ f a) ∨ fn a := by
      refine ⟨S2.same, by rw [List.length_set]; exact S1.len, fun a ha => ?_, F, fun i R' hR => ?_, h2, fun i a ha hg => ?_, h4⟩
      · rcases ha with (hg | hf) | hn
        · exact S2.fr a (.inl (.inl hg))
        · exact S2.fr a (.inr hf)
        · exact R0'.live rn hn
      · obtain ⟨w, ew, rw_⟩ := h1 i R' hR
        exact ⟨w, ew, R'.loc rw_ e.s0 fun a ha => ⟨e.fr a (.inr ⟨i, ha⟩), (S2.fr a (.inl (.inr ⟨i, ha⟩))).2⟩⟩
      · rcases hg with (hg | hf) | hn
        · exact h3 i a ha (.inl hg)
        · exact hd a hf (.inr ⟨i, ha⟩)
        · exact dnn a hn (.inl (.inr ⟨i, ha⟩))
    have := Sb.back (R := R0') ew rn fun a ha hg => dnn a ha (hg.elim (fun h => .inl (.inl h)) .inr)
    exact this
end
end ML

/-! repr of any data, dicts with texts as keys among them. -/
namespace ML
open PySem PySem.Spec PyProof.Rows L2 KS GL LB
section
variable {X : Cx} {pins : List (Addr × Obj)} {σ : L2.St} {H : Hp} {s : Shared}
theorem dct_rows {P : Program} {w : World} {h : Heap} : ∀ {kvs : List (Str × V)} {es : List DictEntry} {vs : List (Key × Value)}, KV (kvs.map fun p => ((Sum.inr p.1 : Key), p.2)) vs → Pairs (mixKind P w) es vs →
    (∃ as, ReadsAll h (es.map (·.key)) (kvs.map fun p => PyData.str p.1) as) ∧ Vals (kvs.map (·.2)) (es.map (·.val))
  | [], es, vs, r, p => by
    cases r
    cases p
    exact ⟨⟨_, .nil⟩, .nil⟩
  | q :: kvs, es, vs, r, p => by
    cases r with
    | cons r1 r2 =>
      cases p with
      | cons p1 p2 p3 =>
        obtain ⟨⟨as, h1⟩, h2⟩ := dct_rows (h := h) r2 p3
        obtain ⟨e1, e2⟩ := r1
        rw [← e1] at p1
        have p1 : keyIs (Sum.inr q.1) _ = true := p1
        rcases keyIs_shape p1 with ⟨i, t, z, _⟩ | ⟨x, t, z, z2⟩
        · cases z
        · cases z
          refine ⟨⟨_, .cons (d := .str q.1) (show Reads h (DictEntry.key _) _ _ by rw [z2]; exact .str _ t) h1⟩, .cons ?_ h2⟩
          show RelV q.2 (DictEntry.val _)
          rw [p2]
          exact e2
theorem dct_of (I : Inv X pins σ H s) {a : Addr} {kvs : List (Str × V)} (e : H a = some (.dK (kvs.map fun p => ((Sum.inr p.1 : Key), p.2)))) :
    (a == sysModules) = false ∧ ∃ o es n, s.heap.get? a = some o ∧ o.cls = .type "dict" ∧ o.data = .dict es n ∧ (∃ as, ReadsAll s.heap (es.toList.map (·.key)) (kvs.map fun p => PyData.str p.1) as) ∧ Vals (kvs.map (·.2)) (es.toList.map (·.val)) := by
  obtain ⟨_, hs, vs, r, o, es, ep, h1, h2, h3, _, h4, _⟩ := dk_of I.hok e
  obtain ⟨h5, h6⟩ := dct_rows (h := s.heap) r h4
  exact ⟨hs, o, es, ep, h1, h2.1, h3, h5, h6⟩
theorem zip_fst {kvs : List (Str × V)} {ds : List PyData} (hl : kvs.length = ds.length) : ((kvs.map fun p => PyData.str p.1).zip ds).map (·.1) = kvs.map fun p => PyData.str p.1 := by
  rw [List.map_fst_zip]
  rw [List.length_map, hl]
  exact Nat.le_refl _
theorem zip_snd {kvs : List (Str × V)} {ds : List PyData} (hl : kvs.length = ds.length) : ((kvs.map fun p => PyData.str p.1).zip ds).map (·.2) = ds := by
  rw [List.map_snd_zip]
  rw [List.length_map, hl]
  exact Nat.le_refl _
/-- what is shown of a value: what it reads as, which objects stand in it -/
def Shows (X : Cx) (h : Heap) (d : PyData) (u : Value) : Prop := ∃ as bs, Reads h u d as ∧ ReadAtMost h d.depth bs ∧ ReprK X.prog X.w bs h d.depth u d.shown
def ShowsAll (X : Cx) (h : Heap) (ds : List PyData) (us : List Value) : Prop := ∃ as bs, ReadsAll h us ds as ∧ ReadAtMost h (PyData.depthAll ds) bs ∧ ReprAllK X.prog X.w bs h (PyData.depthAll ds) us (PyData.shownAll ds)
theorem str_all {h : Heap} : ∀ {ks : List Str} {us : List Value} {as : List Addr}, ReadsAll h us (ks.map PyData.str) as → (∀ t ∈ PyData.shownAll (ks.map PyData.str), t.length ≤ sizeLine) → ShowsAll X h (ks.map PyData.str) us := fun {ks us as} r hz => by
  have ns : ∀ ks : List Str, PyData.showableAll (ks.map PyData.str) = true := fun ks => by
    induction ks with
    | nil => rfl
    | cons k ks ih => rw [List.map_cons, PyData.showableAll, ih]; rfl
  have nd : ∀ ks : List Str, PyData.hasDictAll (ks.map PyData.str) = false := fun ks => by
    induction ks with
    | nil => rw [List.map_nil, PyData.hasDictAll]
    | cons k ks ih => rw [List.map_cons, PyData.hasDictAll, ih, PyData.hasDict]; rfl
  obtain ⟨bs, h1, h2⟩ := ReprAllK.of_readsAll (prog := X.prog) (w := X.w) r (ns ks) (fun z => by rw [nd ks] at z; cases z) hz
  exact ⟨as, bs, r, h1, h2⟩
mutual
theorem Da.shows (I : Inv X pins σ H s) : ∀ {d : PyData} {v : V}, Da X.K H v d → ∀ {u : Value}, RelV v u → d.showable = true → d.shown.length ≤ sizeLine → Shows X s.heap d u
  | _, _, .non, u, r, _, _ => by
    cases r
    exact ⟨_, [], .none, (fun _ h => nomatch h), by simp only [PyData.shown]; exact .of_is ReprIs.none _ _ _⟩
  | _, _, .bl b, u, r, _, _ => by
    cases r
    exact ⟨_, [], .bool b, (fun _ h => nomatch h), by simp only [PyData.shown]; exact .of_is (ReprIs.bool b) _ _ _⟩
  | _, _, .int i, u, r, hs, _ => by
    obtain ⟨t, rfl⟩ := r
    exact ⟨_, [], .int i t, (fun _ h => nomatch h), by simp only [PyData.shown]; exact .of_is (ReprIs.int t (by simpa [PyData.showable] using hs)) _ _ _⟩
  | _, _, .str x, u, r, _, hz => by
    obtain ⟨t, rfl⟩ := r
    exact ⟨_, [], .str x t, (fun _ h => nomatch h), by simp only [PyData.shown]; exact .of_is (ReprIs.str x t (by simpa only [PyData.shown] using hz)) _ _ _⟩
  | _, _, .lst (a := a) (ds := ds) h1 h2, u, r, hs, hz => by
    cases r
    have hz' : (listText (PyData.shownAll ds)).length ≤ sizeLine := by simpa only [PyData.shown] using hz
    obtain ⟨its, rv, ⟨o, n, ho, hc, _, hd⟩, _⟩ := I.list (.inl (.inl h1))
    obtain ⟨as, bs, q1, q2, q3⟩ := DaAll.shows I h2 rv (by simpa [PyData.showable] using hs) (fun t ht => Nat.le_trans (listText_mem_le ht) hz')
    have rr : Reads s.heap (.ref a) (.list ds) _ := .list ho hc hd q1
    have hna : a ∉ bs := not_mem_of_deeper rr (by simp only [PyData.depth]; omega) q2
    refine ⟨_, a :: bs, rr, ReadAtMost.cons rr (by simp only [PyData.depth]; omega) q2, ?_⟩
    simp only [PyData.depth, PyData.shown]
    cases its with
    | nil =>
      cases q1
      simp only [PyData.shownAll, listText_nil]
      exact ReprK.listEmpty ho hc hd
    | cons x l => exact ReprK.list ho hc hd hna (by simpa using q3.length_eq) (fun i y e => q3.item i y (by simpa using e))
  | _, _, .tup (a := a) (ds := ds) h1 h2, u, r, hs, hz => by
    cases r
    have hz' : (tupleText (PyData.shownAll ds)).length ≤ sizeLine := by simpa only [PyData.shown] using hz
    obtain ⟨its, rv, ⟨o, ho, hc, n, hd⟩, _⟩ := I.tuple h1
    obtain ⟨as, bs, q1, q2, q3⟩ := DaAll.shows I h2 rv (by simpa [PyData.showable] using hs) (fun t ht => Nat.le_trans (tupleText_mem_le ht) hz')
    have rr : Reads s.heap (.ref a) (.tuple ds) _ := .tuple ho hc hd q1
    have hna : a ∉ bs := not_mem_of_deeper rr (by simp only [PyData.depth]; omega) q2
    refine ⟨_, a :: bs, rr, ReadAtMost.cons rr (by simp only [PyData.depth]; omega) q2, ?_⟩
    simp only [PyData.depth, PyData.shown]
    exact ReprK.tuple ho hc hd hna q3
  | _, _, .dct (a := a) (kvs := kvs) (ds := ds) h1 h2, u, r, hs, hz => by
    cases r
    obtain ⟨hsys, o, es, n, ho, hc, hd, ⟨as1, k1⟩, rv⟩ := dct_of I h1
    have hl : kvs.length = ds.length := by rw [← h2.len, List.length_map]
    generalize eD : (kvs.map fun p => PyData.str p.1).zip ds = D at hs hz
    have f1 : D.map (·.1) = kvs.map fun p => PyData.str p.1 := by rw [← eD]; exact zip_fst hl
    have f2 : D.map (·.2) = ds := by rw [← eD]; exact zip_snd hl
    have f1' : D.map (·.1) = (kvs.map (·.1)).map PyData.str := by rw [f1, List.map_map]; rfl
    have hz' : (dictText (PyData.shownKv D)).length ≤ sizeLine := by simpa only [PyData.shown] using hz
    obtain ⟨hs1, hs2⟩ := PyData.showableKv_split D (by simpa [PyData.showable] using hs)
    have zk : ∀ t ∈ PyData.shownAll (D.map (·.1)), t.length ≤ sizeLine := fun t ht => let ⟨p, hp, hl⟩ := PyData.shownKv_key_le D t ht; Nat.le_trans hl (Nat.le_trans (dictText_mem_le hp) hz')
    have zv : ∀ t ∈ PyData.shownAll (D.map (·.2)), t.length ≤ sizeLine := fun t ht => let ⟨p, hp, hl⟩ := PyData.shownKv_val_le D t ht; Nat.le_trans hl (Nat.le_trans (dictText_mem_le hp) hz')
    obtain ⟨as2, b1, q1, hb1, w1⟩ := str_all (X := X) (ks := kvs.map (·.1)) (by rw [← f1', f1]; exact k1) (by rw [← f1']; exact zk)
    obtain ⟨as3, b2, q2, hb2, w2⟩ := DaAll.shows I h2 rv (by rw [← f2]; exact hs2) (by rw [← f2]; exact zv)
    rw [← f1'] at q1 hb1 w1
    rw [← f2] at q2 hb2 w2
    have rr : Reads s.heap (.ref a) (.dict D) _ := .dict ho hc hd q1 q2
    have hb : ReadAtMost s.heap (PyData.depthKv D) (b1 ++ b2) := (hb1.mono (PyData.depthAll_keys_le D)).append (hb2.mono (PyData.depthAll_vals_le D))
    have hna : a ∉ b1 ++ b2 := not_mem_of_deeper rr (by simp only [PyData.depth]; omega) hb
    refine ⟨_, a :: (b1 ++ b2), rr, ReadAtMost.cons rr (by simp only [PyData.depth]; omega) hb, ?_⟩
    simp only [PyData.depth, PyData.shown, PyData.shownKv_eq]
    exact ReprK.dict ho hc hd hsys hna (ReprEntriesK.of_two es.toList _ _ (w1.more_le (fun b hb => List.mem_append_left _ hb) (PyData.depthAll_keys_le D)) (w2.more_le (fun b hb => List.mem_append_right _ hb) (PyData.depthAll_vals_le D)))
theorem DaAll.shows (I : Inv X pins σ H s) : ∀ {ds : List PyData} {vs : List V}, DaAll X.K H vs ds → ∀ {us : List Value}, Vals vs us → PyData.showableAll ds = true → (∀ t ∈ PyData.shownAll ds, t.length ≤ sizeLine) → ShowsAll X s.heap ds us
  | _, _, .nil, us, r, _, _ => by
    cases r
    exact ⟨_, [], .nil, (fun _ h => nomatch h), by simp only [PyData.shownAll]; exact .nil⟩
  | _, _, .cons (d := d) (ds := ds) h1 h2, us, r, hs, hz => by
    cases r with
    | cons r1 r2 =>
      have hs' : d.showable = true ∧ PyData.showableAll ds = true := by simpa [PyData.showableAll] using hs
      obtain ⟨as1, b1, q1, hb1, k1⟩ := Da.shows I h1 r1 hs'.1 (hz _ (by simp only [PyData.shownAll]; exact List.mem_cons_self ..))
      obtain ⟨as2, b2, q2, hb2, k2⟩ := DaAll.shows I h2 r2 hs'.2 (fun t ht => hz t (by simp only [PyData.shownAll]; exact List.mem_cons_of_mem _ ht))
      refine ⟨_, b1 ++ b2, .cons q1 q2, ?_, ?_⟩
      · intro b hm
        simp only [PyData.depthAll]
        rcases List.mem_append.mp hm with hm | hm
        · obtain ⟨d', as', r', hd'⟩ := hb1 b hm
          exact ⟨d', as', r', Nat.le_trans hd' (Nat.le_max_left _ _)⟩
        · obtain ⟨d', as', r', hd'⟩ := hb2 b hm
          exact ⟨d', as', r', Nat.le_trans hd' (Nat.le_max_right _ _)⟩
      · simp only [PyData.depthAll, PyData.shownAll]
        exact .cons ((k1.more fun b hb => List.mem_append_left _ hb).level_le (Nat.le_max_left _ _)) (k2.more_le (fun b hb => List.mem_append_right _ hb) (Nat.le_max_right _ _))
end
end
/-- repr(x), x any data -/
def rRepr (K : PySem.W.Frag) : List V → Hp → VK → Prop := fun xs H Q => ∃ (v : V) (d : PyData), xs = [v] ∧ Da K H v d ∧ d.showable = true ∧ d.depth ≤ 60 ∧ d.shown.length ≤ sizeLine ∧ Q (.str d.shown) H
theorem cr_repr {X : Cx} (hg : X.A.guards = some []) (hu : X.A.units + 64 < cLine) : CallR X (.builtin "repr") (rRepr X.K) := by
  intro pins s σ H xs us Q I r h
  obtain ⟨v, d, rfl, hd, hs, hdp, hz, q⟩ := h
  cases r with
  | cons rv rn =>
    cases rn
    rename_i u
    show wpAny _ _ (call (.builtin "repr") [u]) _ _ _
    have fin : ∀ h' t tk, (∀ b o, s.heap.get? b = some o → h'.get? b = some o) → EP X pins σ Q (.str d.shown t) { s with heap := h', toks := tk } := fun h' t tk k => ⟨.str d.shown, H, I.kept (t' := tk) k, ⟨t, rfl⟩, q⟩
    cases hd with
    | non =>
      cases rv
      exact PySem.P.repr_of_none (by simp only [PyData.shown] at fin; exact fin s.heap _ _ fun _ _ e => e)
    | bl b =>
      cases rv
      exact PySem.P.repr_of_bool (by simp only [PyData.shown] at fin; exact fin s.heap _ _ fun _ _ e => e)
    | int i =>
      obtain ⟨t, rfl⟩ := rv
      exact PySem.P.repr_of_int (by simpa [PyData.showable] using hs) (by simp only [PyData.shown] at fin; exact fin s.heap _ _ fun _ _ e => e)
    | str x =>
      obtain ⟨t, rfl⟩ := rv
      exact PySem.P.repr_of_str (by simp only [PyData.shown] at fin; exact fin s.heap _ _ fun _ _ e => e) (by simpa only [PyData.shown] using hz)
    | @lst a xs ds h1 h2 =>
      cases rv
      have hz' : (listText (PyData.shownAll ds)).length ≤ sizeLine := by simpa only [PyData.shown] using hz
      obtain ⟨its, rv, ⟨o, n, ho, hc, _, hd⟩, _⟩ := I.list (.inl (.inl h1))
      obtain ⟨as, bs, q1, q2, q3⟩ := DaAll.shows I h2 rv (by simpa [PyData.showable] using hs) (fun t ht => Nat.le_trans (listText_mem_le ht) hz')
      have hna : a ∉ bs := not_mem_of_deeper (.list ho hc hd q1) (by simp only [PyData.depth]; omega) q2
      simp only [PyData.depth] at hdp
      simp only [PyData.shown] at fin
      refine call_repr_slot (by omega) (T := "list") ⟨o, ho, hc⟩ F.slot_list_repr.toG ?_
      cases its with
      | nil =>
        cases q1
        simp only [PyData.shownAll, listText_nil] at fin
        exact call_list_repr_empty ⟨o, ho, hc⟩ ho hd ⟨_, _, rfl, fin s.heap _ _ fun _ _ e => e⟩
      | cons x l => exact call_list_reprK ho hc hd hna (by simpa using q3.length_eq) (fun i y e => q3.item i y (by simpa using e)) hg (fun b _ => Clear.nil b) (by show X.A.units + 1 + _ < cLine; omega) (fun _ _ e => e) (fun h' u tk k => ⟨_, _, rfl, fin h' u tk k⟩) hz'
    | @tup a xs ds h1 h2 =>
      cases rv
      have hz' : (tupleText (PyData.shownAll ds)).length ≤ sizeLine := by simpa only [PyData.shown] using hz
      obtain ⟨its, rv, ⟨o, ho, hc, n, hd⟩, _⟩ := I.tuple h1
      obtain ⟨as, bs, q1, q2, q3⟩ := DaAll.shows I h2 rv (by simpa [PyData.showable] using hs) (fun t ht => Nat.le_trans (tupleText_mem_le ht) hz')
      have hna : a ∉ bs := not_mem_of_deeper (.tuple ho hc hd q1) (by simp only [PyData.depth]; omega) q2
      simp only [PyData.depth] at hdp
      simp only [PyData.shown] at fin
      refine call_repr_slot (by omega) (T := "tuple") ⟨o, ho, hc⟩ F.slot_tuple_repr ?_
      exact call_tuple_reprK ho hc hd hna q3 hg (fun b _ => Clear.nil b) (by show X.A.units + 1 + _ < cLine; omega) (fun _ _ e => e) (fun h' u tk k => ⟨_, _, rfl, fin h' u tk k⟩) hz'
    | @dct a kvs ds h1 h2 =>
      cases rv
      obtain ⟨hsys, o, es, n, ho, hc, hd, ⟨as1, k1⟩, rv⟩ := dct_of I h1
      have hl : kvs.length = ds.length := by rw [← h2.len, List.length_map]
      generalize eD : (kvs.map fun p => PyData.str p.1).zip ds = D at hs hz hdp fin
      have f1 : D.map (·.1) = kvs.map fun p => PyData.str p.1 := by rw [← eD]; exact zip_fst hl
      have f2 : D.map (·.2) = ds := by rw [← eD]; exact zip_snd hl
      have f1' : D.map (·.1) = (kvs.map (·.1)).map PyData.str := by rw [f1, List.map_map]; rfl
      have hz' : (dictText (PyData.shownKv D)).length ≤ sizeLine := by simpa only [PyData.shown] using hz
      obtain ⟨hs1, hs2⟩ := PyData.showableKv_split D (by simpa [PyData.showable] using hs)
      have zk : ∀ t ∈ PyData.shownAll (D.map (·.1)), t.length ≤ sizeLine := fun t ht => let ⟨p, hp, hl⟩ := PyData.shownKv_key_le D t ht; Nat.le_trans hl (Nat.le_trans (dictText_mem_le hp) hz')
      have zv : ∀ t ∈ PyData.shownAll (D.map (·.2)), t.length ≤ sizeLine := fun t ht => let ⟨p, hp, hl⟩ := PyData.shownKv_val_le D t ht; Nat.le_trans hl (Nat.le_trans (dictText_mem_le hp) hz')
      obtain ⟨as2, b1, q1, hb1, w1⟩ := str_all (X := X) (ks := kvs.map (·.1)) (by rw [← f1', f1]; exact k1) (by rw [← f1']; exact zk)
      obtain ⟨as3, b2, q2, hb2, w2⟩ := DaAll.shows I h2 rv (by rw [← f2]; exact hs2) (by rw [← f2]; exact zv)
      rw [← f1'] at q1 hb1 w1
      rw [← f2] at q2 hb2 w2
      have hb : ReadAtMost s.heap (PyData.depthKv D) (b1 ++ b2) := (hb1.mono (PyData.depthAll_keys_le D)).append (hb2.mono (PyData.depthAll_vals_le D))
      have hna : a ∉ b1 ++ b2 := not_mem_of_deeper (.dict ho hc hd q1 q2) (by simp only [PyData.depth]; omega) hb
      simp only [PyData.depth] at hdp
      simp only [PyData.shown, PyData.shownKv_eq] at fin
      refine call_repr_slot (by omega) (T := "dict") ⟨o, ho, hc⟩ F.slot_dict_repr ?_
      exact call_dict_reprK ho hc hd hsys hna (ReprEntriesK.of_two es.toList _ _ (w1.more_le (fun b hb => List.mem_append_left _ hb) (PyData.depthAll_keys_le D)) (w2.more_le (fun b hb => List.mem_append_right _ hb) (PyData.depthAll_vals_le D))) hg (fun b _ => Clear.nil b)
        (by show X.A.units + 1 + _ < cLine; omega) (fun _ _ e => e) (fun h' u tk k => ⟨_, _, rfl, fin h' u tk k⟩) (by rw [← PyData.shownKv_eq]; exact hz')
end ML

namespace ML
open PySem PySem.Spec PyProof.Rows L2 KS GL LB
/-! ### the readings by names -/
def rLenQ (K : PySem.W.Frag) : List V → Hp → VK → Prop := fun xs H Q => ∃ p ys, xs = [V.ref p] ∧ (SqL K H p ys ∨ SqT K H p ys) ∧ Q (.int ys.length) H
def rListQ (K : PySem.W.Frag) : List V → Hp → VK → Prop := fun xs H Q => ∃ p ys, xs = [V.ref p] ∧ (SqL K H p ys ∨ SqT K H p ys) ∧ ∀ l, H l = none → Q (.ref l) (upd H l (.lst ys))
def rTupQ (K : PySem.W.Frag) : List V → Hp → VK → Prop := fun xs H Q => ∃ p ys, xs = [V.ref p] ∧ ((SqL K H p ys ∧ ∀ l, H l = none → Q (.ref l) (upd H l (.tup ys))) ∨ (SqT K H p ys ∧ Q (.ref p) H))
theorem call_lenQ {X : Cx} : CallR X (.builtin "len") (rLenQ X.K) := call_len_seq
theorem call_listQ {X : Cx} : CallR X (.type "list") (rListQ X.K) := call_list_of
theorem call_tupQ {X : Cx} : CallR X (.type "tuple") (rTupQ X.K) := call_tuple_of
section
variable {K : PySem.W.Frag} {ρ : MS} {Q : Rt → MS → Prop} {Qb : Bool → MS → Prop} {ta tb te tc : TE} {t u : TT} {np : Nat} {Φ : Out} {ts us : TS}
/-! ### built-ins -/
theorem ev_cb1 {r : List V → Hp → VK → Prop} (h : ev ta ρ fun r1 ρ1 => unR (fun v H k => r [v] H k) r1 ρ1 Q) : ev (tCB r (tCons ta tNil)) ρ Q := by
  intro σ H0 H G k S hk
  refine h σ H0 H G _ S fun r1 ρ1 v1 f1 H1 H1' h1 p1 => ?_
  exact h1 σ H1 H1' G v1 f1 _ p1.sat p1.rt p1.dis fun r ρ' v f H3 H3' h3 p3 => hk r ρ' v f H3 H3' h3 (post_ext p1.ext p3)
theorem ev_cb2 {r : List V → Hp → VK → Prop} (h : ev ta ρ fun r1 ρ1 => ev tb ρ1 fun r2 ρ2 => opR (fun v w H k => r [v, w] H k) r1 r2 ρ2 Q) : ev (tCB r (tCons ta (tCons tb tNil))) ρ Q := ev_op (r := fun v w H k => r [v, w] H k) h
/-- reads as a list, or as a tuple -/
inductive rdS (K : PySem.W.Frag) (ρ : MS) (r : Rt) (ds : List PyData) : Prop
  | l : rd K ρ r (.list ds) → rdS K ρ r ds
  | t : rd K ρ r (.tuple ds) → rdS K ρ r ds
theorem rdS.seq {r : Rt} {ds : List PyData} {σ : L2.St} {H0 H : Hp} {G : FP} {v : V} {f : FP} (h : rdS K ρ r ds) (S : Sat ρ σ H0 H G) (hr : RtH r σ H0 H v f) : ∃ a xs, v = .ref a ∧ (SqL K H a xs ∨ SqT K H a xs) ∧ DaAll K H0 xs ds := by
  rcases h with h | h
  · obtain ⟨a, xs, e, h1, h2⟩ := h.list S hr
    exact ⟨a, xs, e, .inl (.inl (.inl h1)), h2⟩
  · obtain ⟨a, xs, e, h1, h2⟩ := h.tup S hr
    exact ⟨a, xs, e, .inr (sameT S.same h1), h2⟩
theorem un_len {r1 : Rt} {ds : List PyData} (h : rdS K ρ r1 ds) (q : Q (.val (dat K (.int ds.length))) ρ) : unR (fun v H k => rLenQ K [v] H k) r1 ρ Q := by
  intro σ H0 H G v1 f1 k S e1 _ hk
  obtain ⟨a, xs, rfl, h1, h2⟩ := h.seq S e1
  refine ⟨a, xs, rfl, h1, ?_⟩
  rw [h2.len]
  exact hk _ _ _ _ _ _ q (post_sc S (fun _ => .inl) (.int _))
theorem un_lenS {r1 : Rt} {z : Str} (h : rd K ρ r1 (.str z)) (hz : z.length ≤ sizeLine) (q : Q (.val (dat K (.int z.length))) ρ) : unR (fun v H k => ∃ z, [v] = [V.str z] ∧ z.length ≤ sizeLine ∧ k (.int z.length) H) r1 ρ Q :=
  un_sc h (fun H v1 k e1 hk => by
    cases e1
    exact ⟨z, rfl, hz, hk _ (.int _)⟩) q
/-- list(x): one's own -/
theorem un_list {r1 : Rt} {ds : List PyData} (h : rdS K ρ r1 ds) (q : Q (.val (lo K ds)) ρ) : unR (fun v H k => rListQ K [v] H k) r1 ρ Q := by
  intro σ H0 H G v1 f1 k S e1 _ hk
  obtain ⟨a, xs, rfl, h1, h2⟩ := h.seq S e1
  exact ⟨a, xs, rfl, h1, fun l hl => hk _ _ _ _ _ _ q (post_own (S.frame fun _ => .inl) hl h2)⟩
/-- .. that stands -/
theorem un_listD {r1 : Rt} {ds : List PyData} (h : rdS K ρ r1 ds) (q : Q (.val (dat K (.list ds))) ρ) : unR (fun v H k => rListQ K [v] H k) r1 ρ Q := by
  intro σ H0 H G v1 f1 k S e1 _ hk
  obtain ⟨a, xs, rfl, h1, h2⟩ := h.seq S e1
  have S1 := S.frame (G' := G) fun _ => .inl
  exact ⟨a, xs, rfl, h1, fun l hl => hk _ _ _ _ _ _ q (post_new S1 hl (.lst upd_same (DaAll.mono (same_upd (S1.same.free hl)) _ _ h2)))⟩
theorem un_tuple {r1 : Rt} {ds : List PyData} (h : rdS K ρ r1 ds) (q : Q (.val (dat K (.tuple ds))) ρ) : unR (fun v H k => rTupQ K [v] H k) r1 ρ Q := by
  intro σ H0 H G v1 f1 k S e1 _ hk
  have S1 := S.frame (G' := G) fun _ => .inl
  rcases h with h | h
  · obtain ⟨a, xs, rfl, h1, h2⟩ := h.list S e1
    exact ⟨a, xs, rfl, .inl ⟨.inl (.inl h1), fun l hl => hk _ _ _ _ _ _ q (post_new S1 hl (.tup (.inl (.inl upd_same)) (DaAll.mono (same_upd (S1.same.free hl)) _ _ h2)))⟩⟩
  · obtain ⟨a, xs, rfl, h1, h2⟩ := h.tup S e1
    exact ⟨a, xs, rfl, .inr ⟨sameT S.same h1, hk _ _ _ _ _ _ q (post_pure S1 (.tup h1 h2))⟩⟩
theorem un_sum {r1 : Rt} {ns : List Int} (h : rd K ρ r1 (.list (ns.map .int))) (q : Q (.val (dat K (.int ns.sum))) ρ) : unR (fun v H k => rSum K [v] H k) r1 ρ Q := by
  intro σ H0 H G v1 f1 k S e1 _ hk
  obtain ⟨a, xs, rfl, h1, h2⟩ := h.list S e1
  obtain rfl := h2.toInts
  exact ⟨a, ns, rfl, .inl (.inl h1), hk _ _ _ _ _ _ q (post_sc S (fun _ => .inl) (.int _))⟩
theorem un_all {r1 : Rt} {bs : List Bool} (h : rd K ρ r1 (.list (bs.map .bool))) (q : Q (.val (dat K (.bool (bs.all id)))) ρ) : unR (fun v H k => rAll K [v] H k) r1 ρ Q := by
  intro σ H0 H G v1 f1 k S e1 _ hk
  obtain ⟨a, xs, rfl, h1, h2⟩ := h.list S e1
  obtain rfl := h2.toBools
  exact ⟨a, bs, rfl, .inl (.inl h1), hk _ _ _ _ _ _ q (post_sc S (fun _ => .inl) (.bl _))⟩
theorem un_repr {r1 : Rt} {d : PyData} (h : rd K ρ r1 d) (_hd : ∃ ds, d = .list ds ∨ d = .tuple ds) (h1 : d.showable = true) (h2 : d.depth ≤ 60) (h3 : d.shown.length ≤ sizeLine) (q : Q (.val (dat K (.str d.shown))) ρ) : unR (fun v H k => rRepr K [v] H k) r1 ρ Q :=
  un_sc h (fun H v1 k e1 hk => ⟨_, _, rfl, e1, h1, h2, h3, hk _ (.str _)⟩) q
theorem un_reprA {r1 : Rt} {d : PyData} (h : rd K ρ r1 d) (h1 : d.showable = true) (h2 : d.depth ≤ 60) (h3 : d.shown.length ≤ sizeLine) (q : Q (.val (dat K (.str d.shown))) ρ) : unR (fun v H k => rRepr K [v] H k) r1 ρ Q :=
  un_sc h (fun H v1 k e1 hk => ⟨_, _, rfl, e1, h1, h2, h3, hk _ (.str _)⟩) q
theorem un_int {r1 : Rt} {n : Int} (h : rd K ρ r1 (.int n)) (q : Q (.val (dat K (.int n))) ρ) : unR (fun v H k => (∃ i, [v] = [V.int i] ∧ k (.int i) H) ∨ ∃ b, [v] = [V.bl b] ∧ k (.int (if b then 1 else 0)) H) r1 ρ Q :=
  un_sc h (fun H v1 k e1 hk => by
    cases e1
    exact .inl ⟨n, rfl, hk _ (.int _)⟩) q
theorem un_intB {r1 : Rt} {b : Bool} (h : rd K ρ r1 (.bool b)) (q : Q (.val (dat K (.int (if b then 1 else 0)))) ρ) : unR (fun v H k => (∃ i, [v] = [V.int i] ∧ k (.int i) H) ∨ ∃ b, [v] = [V.bl b] ∧ k (.int (if b then 1 else 0)) H) r1 ρ Q :=
  un_sc h (fun H v1 k e1 hk => by
    cases e1
    exact .inr ⟨b, rfl, hk _ (.int _)⟩) q
theorem op_max2 {r1 r2 : Rt} {i j : Int} (h1 : rd K ρ r1 (.int i)) (h2 : rd K ρ r2 (.int j)) (q : Q (.val (dat K (.int (if j > i then j else i)))) ρ) : opR (fun v w H k => ∃ i j, [v, w] = [V.int i, .int j] ∧ k (.int (if j > i then j else i)) H) r1 r2 ρ Q :=
  op_sc h1 h2 (fun H v1 v2 k e1 e2 hk => ⟨i, j, by rw [da_int e1, da_int e2], hk _ (.int _)⟩) q
theorem op_min2 {r1 r2 : Rt} {i j : Int} (h1 : rd K ρ r1 (.int i)) (h2 : rd K ρ r2 (.int j)) (q : Q (.val (dat K (.int (if j < i then j else i)))) ρ) : opR (fun v w H k => ∃ i j, [v, w] = [V.int i, .int j] ∧ k (.int (if j < i then j else i)) H) r1 r2 ρ Q :=
  op_sc h1 h2 (fun H v1 v2 k e1 e2 hk => ⟨i, j, by rw [da_int e1, da_int e2], hk _ (.int _)⟩) q
/-! ### sorted: data that are alike -/
def rSortedD (K : PySem.W.Frag) : List V → Hp → VK → Prop := fun vs H Q => ∃ (a : Addr) (zs : List (V × PyData)), vs = [V.ref a] ∧ SqL K H a (zs.map (·.1)) ∧ (∀ z ∈ zs, Dp K H z.1 z.2) ∧ W.AllAlike (zs.map (·.2)) ∧ W.Sortable (zs.map (·.2)) ∧ (∀ z ∈ zs, z.2.depth ≤ 60) ∧
  ∀ (zs' : List (V × PyData)) (p : Addr), zs'.Perm zs → zs'.Pairwise (fun q r => W.dataLt r.2 q.2 = false) → H p = none → Q (.ref p) (upd H p (.lst (zs'.map (·.1))))
theorem each_vals {α : Type} {f : α → V} : ∀ {zs : List α} {us : List Value}, Vals (zs.map f) us → W.EachIs (fun u z => RelV (f z) u) us zs
  | [], _, .nil => .nil
  | z :: zs, _, .cons h t => .cons h (each_vals t)
theorem vals_each {α : Type} {f : α → V} : ∀ {zs : List α} {us : List Value}, W.EachIs (fun u z => RelV (f z) u) us zs → Vals (zs.map f) us
  | [], _, .nil => .nil
  | z :: zs, _, .cons h t => .cons h (vals_each t)
theorem each_imp {α : Type} {R R' : Value → α → Prop} : ∀ {us : List Value} {zs : List α}, W.EachIs R us zs → (∀ u, ∀ z ∈ zs, R u z → R' u z) → W.EachIs R' us zs
  | _, _, .nil, _ => .nil
  | _, _, .cons h t, hr => .cons (hr _ _ List.mem_cons_self h) (each_imp t fun u z hz => hr u z (List.mem_cons_of_mem _ hz))
theorem cr_sortedD {X : Cx} (hu : X.A.units + 64 < cLine) : CallR X (.builtin "sorted") (rSortedD X.K) := by
  intro pins s σ H vs us Q I r h
  obtain ⟨a, zs, rfl, ha, hd, hal, hso, hdp, q⟩ := h
  rw [Vals.ref1 r]
  obtain ⟨its, rv, pl, hz⟩ := I.list ha
  rw [List.length_map] at hz
  have e0 := each_vals rv
  refine W.sorted_data (R := fun u (z : V × PyData) => RelV z.1 u) (enc := fun z : V × PyData => z.2) (bs := zs) pl.isList e0 (each_imp e0 fun u z hz hu => Dp.reads I z.2 z.1 u (hd z hz) hu) hal hso hz (fun b hb => ?_) fun out ho eo => ?_
  · have := hdp b hb
    show X.A.units + 2 + b.2.depth < cLine
    omega
  · obtain ⟨c, hc⟩ := sortedAll_at s.heap its (List.toArray out)
    have hn : H (s.heap.objs.size + 1) = none := I.hok.fresh (Nat.le_succ _)
    have hperm : (zs.mergeSort (W.dataLe false fun z : V × PyData => z.2)).Perm zs := List.mergeSort_perm _ _
    have hl : ((zs.mergeSort (W.dataLe false fun z : V × PyData => z.2)).map (·.1)).length ≤ sizeLine := by
      rw [List.length_map, hperm.length_eq]
      exact hz
    have ob : ObjOk X.prog X.w (upd H (s.heap.objs.size + 1) (.lst ((zs.mergeSort (W.dataLe false fun z : V × PyData => z.2)).map (·.1)))) (sortedAll s.heap its out.toArray) (s.heap.objs.size + 1) (.lst ((zs.mergeSort (W.dataLe false fun z : V × PyData => z.2)).map (·.1))) :=
      ⟨hl, out, c, vals_each eo, hc⟩
    refine ⟨.ref (s.heap.objs.size + 1), _, I.laid (t' := s.toks) (fun _ _ e => sortedAll_old e) (Nat.le_succ _) ob, rfl, q _ _ hperm ?_ hn⟩
    refine (W.sort_pairwise (dataLe_total fun z : V × PyData => z.2) zs).imp fun {p q} h => ?_
    have h' : (!W.dataLt q.2 p.2) = true := h
    simpa using h'
theorem da_zip {H : Hp} : ∀ {xs : List V} {ds : List PyData}, DaAll K H xs ds → (xs.zip ds).map (·.1) = xs ∧ (xs.zip ds).map (·.2) = ds ∧ ∀ z ∈ xs.zip ds, Da K H z.1 z.2
  | [], _, .nil => ⟨rfl, rfl, fun _ h => by cases h⟩
  | x :: xs, d :: ds, .cons h t => by
    obtain ⟨e1, e2, e3⟩ := da_zip t
    refine ⟨by rw [List.zip_cons_cons, List.map_cons, e1], by rw [List.zip_cons_cons, List.map_cons, e2], fun z hz => ?_⟩
    rcases List.mem_cons.mp hz with rfl | hz
    · exact h
    · exact e3 z hz
theorem da_unzip {H : Hp} : ∀ {zs : List (V × PyData)}, (∀ z ∈ zs, Da K H z.1 z.2) → DaAll K H (zs.map (·.1)) (zs.map (·.2))
  | [], _ => .nil
  | z :: zs, h => .cons (h z List.mem_cons_self) (da_unzip fun y hy => h y (List.mem_cons_of_mem _ hy))
theorem un_sorted {r1 : Rt} {ds : List PyData} (h : rd K ρ r1 (.list ds)) (h1 : W.AllAlike ds) (h2 : W.Sortable ds) (h3 : ∀ d ∈ ds, d.depth ≤ 60) (q : ∀ ds', ds'.Perm ds → ds'.Pairwise (fun a b => W.dataLt b a = false) → Q (.val (lo K ds')) ρ) : unR (fun v H k => rSortedD K [v] H k) r1 ρ Q := by
  intro σ H0 H G v1 f1 k S e1 _ hk
  obtain ⟨a, xs, rfl, ha, hx⟩ := h.list S e1
  obtain ⟨z1, z2, z3⟩ := da_zip hx
  have S1 := S.frame (G' := G) fun _ => .inl
  refine ⟨a, xs.zip ds, rfl, by rw [z1]; exact .inl (.inl ha), fun z hz => Da.dp _ _ (Da.mono S.same _ _ (z3 z hz)) (alike_noDict _ (h1 _ (by rw [← z2]; exact List.mem_map_of_mem hz) _ (by rw [← z2]; exact List.mem_map_of_mem hz))), by rw [z2]; exact h1, by rw [z2]; exact h2, fun z hz => h3 _ (by rw [← z2]; exact List.mem_map_of_mem hz), fun zs' p hp pw hn => ?_⟩
  refine hk _ _ _ _ _ _ (q (zs'.map (·.2)) (by rw [← z2]; exact hp.map _) (List.pairwise_map.mpr pw)) (post_own S1 hn (da_unzip fun z hz => z3 z (hp.mem_iff.mp hz)))
/-! ### in -/
theorem eqV_da {H : Hp} {x y : V} {d e : PyData} (hx : Da K H x d) (hy : Da K H y e) (fx : flatV x = true) (fy : flatV y = true) : eqV x y = PyData.eqv d e := by
  cases hx <;> cases hy <;> first | rfl | (simp [flatV] at fx fy; done) | (simp [eqV, PyData.eqv]; done) | skip
  all_goals first | rfl | (rename_i a b; cases a <;> cases b <;> simp [eqV, PyData.eqv]; done) | skip
end
end ML

namespace ML
open PySem PySem.Spec PyProof.Rows L2 KS GL LB
/-- the part lo .. hi of a list, as Python cuts -/
def cutA {α : Type} (xs : List α) (lo hi : Option Int) : List α := (xs.drop (HT.sIx xs.length 0 lo)).take (HT.sIx xs.length xs.length hi - HT.sIx xs.length 0 lo)
section
variable {K : PySem.W.Frag} {ρ : MS} {Q : Rt → MS → Prop} {Qb : Bool → MS → Prop} {ta tb te tc : TE} {t u : TT} {np : Nat} {Φ : Out} {ts us : TS} {r1 r2 : Rt}
/-! ### in -/
def flatD : PyData → Bool
  | .none => true
  | .bool _ => true
  | .int _ => true
  | .str _ => true
  | _ => false
theorem flat_da {H : Hp} {v : V} {d : PyData} (h : Da K H v d) (f : flatD d = true) : flatV v = true := by
  cases h <;> first | rfl | exact absurd f (by simp [flatD])
theorem flat_all {H : Hp} : ∀ {vs : List V} {ds : List PyData}, DaAll K H vs ds → ds.all flatD = true → vs.all flatV = true
  | _, _, .nil, _ => rfl
  | _, _, .cons h t, f => by
    rw [List.all_cons, Bool.and_eq_true] at f
    rw [List.all_cons, flat_da h f.1, flat_all t f.2]
    rfl
theorem in_da {H H' : Hp} {x : V} {d : PyData} (hx : Da K H x d) (fx : flatD d = true) : ∀ {vs : List V} {ds : List PyData}, DaAll K H' vs ds → ds.all flatD = true → inV x vs = ds.any fun y => PyData.eqv y d
  | _, _, .nil, _ => rfl
  | y :: _, e :: _, .cons h t, f => by
    rw [List.all_cons, Bool.and_eq_true] at f
    have ih := in_da hx fx t f.2
    unfold inV at ih ⊢
    rw [List.any_cons, List.any_cons, ih]
    have e : eqV y x = PyData.eqv e d := by
      have h1 := flat_da h f.1
      have h2 := flat_da hx fx
      cases h <;> cases hx <;> first | rfl | (simp [flatV] at h1 h2; done) | (simp [eqV, PyData.eqv]; done) | (rename_i a b; cases a <;> cases b <;> simp [eqV, PyData.eqv])
    rw [e]
theorem op_in {neg : Bool} {d : PyData} {ds : List PyData} (h1 : rd K ρ r1 d) (h2 : rdS K ρ r2 ds) (f1 : flatD d = true) (f2 : ds.all flatD = true) (q : Q (.val (dat K (.bool (if neg then !ds.any (fun y => PyData.eqv y d) else ds.any fun y => PyData.eqv y d)))) ρ) : opR (rIn K neg) r1 r2 ρ Q := by
  intro σ H0 H G v1 v2 g1 g2 k S e1 e2 _ _ _ hk
  obtain ⟨a, xs, rfl, h3, h4⟩ := h2.seq S e2
  have h1' := h1.da S e1
  refine ⟨a, xs, rfl, h3, flat_da h1' f1, flat_all h4 f2, ?_⟩
  rw [in_da h1' f1 h4 f2]
  exact hk _ _ _ _ _ _ q (post_sc S (fun _ => .inl) (.bl _))
theorem op_inDd {d : PyData} {ds : List PyData} (h1 : rd K ρ r1 d) (h2 : rd K ρ r2 (.list ds)) (f1 : SeqAt.shaped d = true) (f2 : SeqAt.shaped (.list ds) = true) (q : Q (.val (dat K (.bool (ds.any fun y => PyData.eqv y d)))) ρ) : opR (rInD K) r1 r2 ρ Q :=
  op_sc h1 h2 (fun H v1 v2 k e1 e2 hk => ⟨d, ds, Da.dp _ _ e1 (shp_noDict f1), Da.dp _ _ e2 (shp_noDict f2), f1, f2, hk _ (.bl _)⟩) q
theorem op_ninDd {d : PyData} {ds : List PyData} (h1 : rd K ρ r1 d) (h2 : rd K ρ r2 (.list ds)) (f1 : SeqAt.shaped d = true) (f2 : SeqAt.shaped (.list ds) = true) (q : Q (.val (dat K (.bool (!ds.any fun y => PyData.eqv y d)))) ρ) : opR (rNotInD K) r1 r2 ρ Q :=
  op_sc h1 h2 (fun H v1 v2 k e1 e2 hk => ⟨d, ds, Da.dp _ _ e1 (shp_noDict f1), Da.dp _ _ e2 (shp_noDict f2), f1, f2, hk _ (.bl _)⟩) q
/-! ### is None -/
theorem op_isN_ {d : PyData} (h1 : rd K ρ r1 d) (h2 : rd K ρ r2 .none) (q : Q (.val (dat K (.bool (match d with | .none => true | _ => false)))) ρ) : opR (fun x y H Q => y = .non ∧ Q (.bl (decide (x = .non))) H) r1 r2 ρ Q :=
  op_sc h1 h2 (fun H v1 v2 k e1 e2 hk => by
    cases e2
    refine ⟨rfl, hk _ ?_⟩
    cases e1 <;> exact .bl _) q
theorem op_notN_ {d : PyData} (h1 : rd K ρ r1 d) (h2 : rd K ρ r2 .none) (q : Q (.val (dat K (.bool (match d with | .none => false | _ => true)))) ρ) : opR (fun x y H Q => y = .non ∧ Q (.bl (!decide (x = .non))) H) r1 r2 ρ Q :=
  op_sc h1 h2 (fun H v1 v2 k e1 e2 hk => by
    cases e2
    refine ⟨rfl, hk _ ?_⟩
    cases e1 <;> exact .bl _) q
/-! ### lists and tuples put together, cut -/
theorem op_cat_ {ds es : List PyData} (h1 : rd K ρ r1 (.list ds)) (h2 : rd K ρ r2 (.list es)) (hl : ds.length + es.length ≤ sizeLine) (q : Q (.val (lo K (ds ++ es))) ρ) : opR rCat r1 r2 ρ Q := by
  intro σ H0 H G v1 v2 f1 f2 k S e1 e2 _ _ _ hk
  obtain ⟨a, xs, rfl, ha, hx⟩ := h1.list S e1
  obtain ⟨b, ys, rfl, hb, hy⟩ := h2.list S e2
  exact ⟨a, b, xs, ys, rfl, rfl, ha, hb, by rw [hx.len, hy.len]; exact hl, fun p hp => hk _ _ _ _ _ _ q (post_own (S.frame fun _ => .inl) hp (hx.append hy))⟩
theorem DaAll.flat {H : Hp} {vs : List V} {ds : List PyData} (h : DaAll K H vs ds) : ∀ n : Nat, DaAll K H (List.replicate n vs).flatten (List.replicate n ds).flatten
  | 0 => .nil
  | n + 1 => by
    rw [List.replicate_succ, List.replicate_succ, List.flatten_cons, List.flatten_cons]
    exact h.append (DaAll.flat h n)
theorem op_rep_ {ds : List PyData} {n : Int} (h1 : rd K ρ r1 (.list ds)) (h2 : rd K ρ r2 (.int n)) (n1 : -(2 ^ 63) ≤ n) (n2 : n < 2 ^ 63) (hl : ds.length * n.toNat ≤ sizeLine) (q : Q (.val (lo K (List.replicate n.toNat ds).flatten)) ρ) : opR rRep r1 r2 ρ Q := by
  intro σ H0 H G v1 v2 f1 f2 k S e1 e2 _ _ _ hk
  obtain ⟨a, xs, rfl, ha, hx⟩ := h1.list S e1
  obtain rfl := h2.int S e2
  exact ⟨a, n, xs, rfl, rfl, ha, n1, n2, by rw [hx.len]; exact hl, fun p hp => hk _ _ _ _ _ _ q (post_own (S.frame fun _ => .inl) hp (hx.flat _))⟩
theorem op_catA_ {ds es : List PyData} (h1 : rd K ρ r1 (.tuple ds)) (h2 : rd K ρ r2 (.tuple es)) (hl : ds.length + es.length ≤ sizeLine) (q : Q (.val (dat K (.tuple (ds ++ es)))) ρ) : opR (rCatA K) r1 r2 ρ Q := by
  intro σ H0 H G v1 v2 f1 f2 k S e1 e2 _ _ _ hk
  obtain ⟨a, xs, rfl, ha, hx⟩ := h1.tup S e1
  obtain ⟨b, ys, rfl, hb, hy⟩ := h2.tup S e2
  have S1 := S.frame (G' := G) fun _ => .inl
  refine ⟨a, b, xs, ys, rfl, rfl, sameT S.same ha, sameT S.same hb, by rw [hx.len, hy.len]; exact hl, fun e => ?_, fun _ e => ?_, fun _ _ p hp => ?_⟩
  · subst e
    cases hx
    exact hk _ _ _ _ _ _ q (post_pure S1 (.tup hb hy))
  · subst e
    cases hy
    rw [List.append_nil] at q
    exact hk _ _ _ _ _ _ q (post_pure S1 (.tup ha hx))
  · exact hk _ _ _ _ _ _ q (post_new S1 hp (.tup (.inl (.inl upd_same)) (DaAll.mono (same_upd (S1.same.free hp)) _ _ (hx.append hy))))
/-- an end of a part -/
def evO (to : TO) (ρ : MS) (Q : Option Int → MS → Prop) : Prop := ∀ (σ : L2.St) (H0 H : Hp) (G : FP) (k : Option Int → Hp → Prop), Sat ρ σ H0 H G →
  (∀ o ρ' H0' H', Q o ρ' → Ext G H0 H H0' H' → Sat ρ' σ H0' H' G → k o H') → to σ H k
theorem evO_none {Q : Option Int → MS → Prop} (q : Q none ρ) : evO tNoPart ρ Q := fun σ H0 H G k S hk => hk none ρ H0 H q Ext.refl S
theorem evO_some {Q : Option Int → MS → Prop} (h : ev te ρ fun r ρ1 => ∃ i, r = .val (dat K (.int i)) ∧ Q (some i) ρ1) : evO (tPart te) ρ Q := by
  intro σ H0 H G k S hk
  refine h σ H0 H G _ S fun r ρ1 v f H1 H1' ⟨i, e, q⟩ p => ?_
  subst e
  have hv := p.rt.1
  cases hv
  exact ⟨i, rfl, hk _ _ _ _ q p.ext (p.sat.frame fun _ => .inl)⟩
def slR (r : V → Option Int → Option Int → Hp → VK → Prop) (r1 : Rt) (lo hi : Option Int) (ρ : MS) (Q : Rt → MS → Prop) : Prop := unR (fun v H k => r v lo hi H k) r1 ρ Q
theorem ev_sl {r : V → Option Int → Option Int → Hp → VK → Prop} {tl th : TO} (h : ev te ρ fun r1 ρ1 => evO tl ρ1 fun l ρ2 => evO th ρ2 fun h ρ3 => slR r r1 l h ρ3 Q) : ev (tSl r te tl th) ρ Q := by
  intro σ H0 H G k S hk
  refine h σ H0 H G _ S fun r1 ρ1 v1 f1 H1 H1' h1 p1 => ?_
  refine h1 σ H1 H1' (fun a => G a ∨ f1 a) _ p1.sat fun l ρ2 H2 H2' h2 e2 S2 => ?_
  refine h2 σ H2 H2' (fun a => G a ∨ f1 a) _ S2 fun o ρ3 H3 H3' h3 e3 S3 => ?_
  have e23 := e2.trans e3
  have rt1 : RtH r1 σ H3 H3' v1 f1 := p1.rt.loc e23.s0 fun a ha => ⟨e23.fr a (.inr ha), (S3.fr a (.inr ha)).2⟩
  exact h3 σ H3 H3' G v1 f1 _ S3 rt1 p1.dis fun r ρ' v f H4 H4' q p => hk r ρ' v f H4 H4' q (post_ext (p1.ext.trans (e23.weak fun _ => .inl)) p)
theorem DaAll.cut {H : Hp} {vs : List V} {ds : List PyData} (h : DaAll K H vs ds) (l o : Option Int) : DaAll K H (cutV vs l o) (cutA ds l o) := by
  unfold cutV cutA
  rw [h.len]
  exact (h.drop _).take _
theorem sl_list_ {ds : List PyData} {l o : Option Int} (h1 : rd K ρ r1 (.list ds)) (q : Q (.val (lo K (cutA ds l o))) ρ) : slR (rSlL K) r1 l o ρ Q := by
  intro σ H0 H G v1 f1 k S e1 _ hk
  obtain ⟨a, xs, rfl, ha, hx⟩ := h1.list S e1
  exact ⟨a, xs, rfl, .inl (.inl ha), fun p hp => hk _ _ _ _ _ _ q (post_own (S.frame fun _ => .inl) hp (hx.cut l o))⟩
theorem sl_tup_ {ds : List PyData} {l o : Option Int} (h1 : rd K ρ r1 (.tuple ds)) (q : Q (.val (dat K (.tuple (cutA ds l o)))) ρ) : slR (rSlA K) r1 l o ρ Q := by
  intro σ H0 H G v1 f1 k S e1 _ hk
  obtain ⟨a, xs, rfl, ha, hx⟩ := h1.tup S e1
  have S1 := S.frame (G' := G) fun _ => .inl
  refine ⟨a, xs, rfl, sameT S.same ha, fun ⟨z1, z2⟩ => ?_, fun _ p hp => ?_⟩
  · have : cutA ds l o = ds := by
      unfold cutA
      rw [hx.len] at z1 z2
      rw [z1, z2]
      simp
    rw [this] at q
    exact hk _ _ _ _ _ _ q (post_pure S1 (.tup ha hx))
  · exact hk _ _ _ _ _ _ q (post_new S1 hp (.tup (.inl (.inl upd_same)) (DaAll.mono (same_upd (S1.same.free hp)) _ _ (hx.cut l o))))
theorem sl_str_ {z : Str} {l o : Option Int} (h1 : rd K ρ r1 (.str z)) (hz : z.length ≤ sizeLine) (q : Q (.val (dat K (.str (cutS z l o)))) ρ) : slR rSlS r1 l o ρ Q :=
  un_sc h1 (fun H v1 k e1 hk => by
    cases e1
    exact ⟨z, rfl, hz, hk _ (.str _)⟩) q
/-- xs[::-1] -/
theorem ev_rev (h : ev te ρ fun r ρ1 => ∃ ds, rd K ρ1 r (.list ds) ∧ Q (.val (lo K ds.reverse)) ρ1) : ev (tRevL K te) ρ Q := by
  intro σ H0 H G k S hk
  refine h σ H0 H G _ S fun r1 ρ1 v1 f1 H1 H1' ⟨ds, hr, q⟩ p => ?_
  obtain ⟨a, xs, rfl, ha, hx⟩ := hr.list p.sat p.rt
  exact ⟨a, xs, rfl, .inl (.inl ha), fun p' hp => hk _ _ _ _ _ _ q (post_ext p.ext (post_own (p.sat.frame fun _ => .inl) hp hx.reverse))⟩
/-! ### methods of lists -/
theorem ev_bm0 {r : V → List V → Hp → VK → Prop} (h : ev ta ρ fun r1 ρ1 => ∃ ds, rd K ρ1 r1 (.list ds) ∧ unR (fun v H k => r v [] H k) r1 ρ1 Q) : ev (tBM0 K "list" r ta) ρ Q := by
  intro σ H0 H G k S hk
  refine h σ H0 H G _ S fun r1 ρ1 v1 f1 H1 H1' ⟨ds, hr, h1⟩ p1 => ?_
  obtain ⟨a, xs, e, ha, hx⟩ := hr.list p1.sat p1.rt
  refine ⟨by subst e; exact .inl ⟨rfl, xs, .inl (.inl ha)⟩, ?_⟩
  exact h1 σ H1 H1' G v1 f1 _ p1.sat p1.rt p1.dis fun r ρ' v f H3 H3' h3 p3 => hk r ρ' v f H3 H3' h3 (post_ext p1.ext p3)
theorem ev_bm1 {r : V → List V → Hp → VK → Prop} (h : ev ta ρ fun r1 ρ1 => ∃ ds, rd K ρ1 r1 (.list ds) ∧ ev tb ρ1 fun r2 ρ2 => opR (fun v w H k => r v [w] H k) r1 r2 ρ2 Q) : ev (tBM K "list" r ta (tCons tb tNil)) ρ Q := by
  intro σ H0 H G k S hk
  refine h σ H0 H G _ S fun r1 ρ1 v1 f1 H1 H1' ⟨ds, hr, h1⟩ p1 => ?_
  obtain ⟨a, xs, e, ha, hx⟩ := hr.list p1.sat p1.rt
  refine ⟨by subst e; exact .inl ⟨rfl, xs, .inl (.inl ha)⟩, ?_⟩
  refine h1 σ H1 H1' (fun a => G a ∨ f1 a) _ p1.sat fun r2 ρ2 v2 f2 H2 H2' h2 p2 => ?_
  have rt1 : RtH r1 σ H2 H2' v1 f1 := p1.rt.loc p2.ext.s0 fun a ha => ⟨p2.ext.fr a (.inr ha), (p2.sat.fr a (.inl (.inr ha))).2⟩
  refine h2 σ H2 H2' G v1 v2 f1 f2 _ (p2.sat.frame fun a ha => ?_) rt1 p2.rt p1.dis (fun a h1 h2 => p2.dis a h1 (.inl h2)) (fun a h1 h2 => p2.dis a h2 (.inr h1)) fun r ρ' v f H3 H3' h3 p3 => hk r ρ' v f H3 H3' h3 (post_ext (p1.ext.trans (p2.ext.weak fun _ => .inl)) p3)
  rcases ha with h | h | h
  · exact .inl (.inl h)
  · exact .inl (.inr h)
  · exact .inr h
/-- a list in a slot changes -/
theorem mut_slot {i : Nat} {ds es : List PyData} {σ : L2.St} {H0 H : Hp} {G : FP} {v : V} (e : ρ[i]? = some (some (lo K ds))) (S : Sat ρ σ H0 H G) (hv : σ[i]? = some (some v)) : ∃ a xs, v = .ref a ∧ H a = some (.lst xs) ∧ DaAll K H0 xs ds ∧ ¬ G a ∧
    ∀ (H0' : Hp) (ys : List V), H0' = H0 → DaAll K H0 ys es → Ext G H0 H H0 (upd H a (.lst ys)) ∧ Sat (ρ.set i (some (lo K es))) σ H0 (upd H a (.lst ys)) G := by
  obtain ⟨w, f, ew, ⟨a, xs, rfl, hf, h1, h2, h3⟩, d, S2⟩ := S.take e
  obtain rfl : V.ref a = v := Option.some.inj (Option.some.inj (ew.symm.trans hv))
  have hGa : ¬ G a := d a ((hf a).mpr rfl)
  refine ⟨a, xs, rfl, h2, h3, hGa, fun _ ys _ hy => ⟨⟨Same.refl _, fun b hb => upd_ne fun z => hGa (z ▸ hb)⟩, ?_⟩⟩
  have S3 : Sat (ρ.set i none) σ H0 (upd H a (.lst ys)) fun b => G b ∨ f b := S2.mut (fun b hb => upd_ne fun z => hb ((hf b).mpr z)) fun b hb => by
    rw [(hf b).mp hb, upd_same]
    exact Option.some_ne_none _
  exact S3.back (R := lo K es) hv ⟨a, ys, rfl, hf, h1, upd_same, hy⟩ d
theorem op_append {i : Nat} {ds : List PyData} {d : PyData} {ρ' : MS} (hd : asD K ρ r2 d ρ') (e : ρ'[i]? = some (some (lo K ds))) (hl : ds.length < sizeLine) (q : Q (.val (dat K .none)) (ρ'.set i (some (lo K (ds ++ [d]))))) : opR (fun v w H k => rAppend v [w] H k) (.at i) r2 ρ Q := by
  intro σ H0 H G v1 v2 f1 f2 k S e1 e2 d1 d2 d3 hk
  obtain ⟨H0', s0, hda, S2⟩ := hd.go (G := G) (f := f2) (S.frame fun a ha => ha.elim .inl fun h => .inr (.inr h)) e2 d2
  obtain ⟨a, xs, rfl, h2, h3, hG, fin⟩ := mut_slot (es := ds ++ [d]) e S2 e1.1
  obtain ⟨x1, x2⟩ := fin _ (xs ++ [v2]) rfl (h3.append (.cons hda .nil))
  exact ⟨a, xs, v2, rfl, rfl, h2, by rw [h3.len]; exact hl, hk _ _ _ (fun _ => False) _ _ q ⟨⟨s0.trans x1.s0, x1.fr⟩, ⟨.non, fun _ h => h⟩, fun _ h => h.elim, x2.frame fun a ha => ha.resolve_right id⟩⟩
theorem op_extend {i : Nat} {ds es : List PyData} (e : ρ[i]? = some (some (lo K ds))) (h2 : rd K ρ r2 (.list es)) (hl : ds.length + es.length ≤ sizeLine) (q : Q (.val (dat K .none)) (ρ.set i (some (lo K (ds ++ es))))) : opR (fun v w H k => rExtend v [w] H k) (.at i) r2 ρ Q := by
  intro σ H0 H G v1 v2 f1 f2 k S e1 e2 d1 d2 d3 hk
  obtain ⟨b, ys, rfl, hb, hy⟩ := h2.list S e2
  have S1 := S.frame (G' := G) fun _ => .inl
  obtain ⟨a, xs, rfl, h2, h3, hG, fin⟩ := mut_slot (es := ds ++ es) e S1 e1.1
  obtain ⟨x1, x2⟩ := fin _ (xs ++ ys) rfl (h3.append hy)
  exact ⟨a, b, xs, ys, rfl, rfl, h2, hb, by rw [h3.len, hy.len]; exact hl, hk _ _ _ (fun _ => False) _ _ q ⟨x1, ⟨.non, fun _ h => h⟩, fun _ h => h.elim, x2.frame fun a ha => ha.resolve_right id⟩⟩
theorem un_pop {i : Nat} {ds : List PyData} {d : PyData} (e : ρ[i]? = some (some (lo K (ds ++ [d])))) (q : Q (.val (dat K d)) (ρ.set i (some (lo K ds)))) : unR (fun v H k => rPop v [] H k) (.at i) ρ Q := by
  intro σ H0 H G v1 f1 k S e1 d1 hk
  have S1 := S.frame (G' := G) fun _ => .inl
  obtain ⟨a, xs, rfl, h2, h3, hG, fin⟩ := mut_slot (es := ds) e S1 e1.1
  have hl := h3.len
  have h4 := h3.dropLast
  rw [List.dropLast_concat] at h4
  obtain ⟨x1, x2⟩ := fin _ xs.dropLast rfl h4
  obtain ⟨v, ev, hv⟩ := h3.get (i := ds.length) (d := d) (by simp)
  rw [List.length_append] at hl
  have hl' : xs.length - 1 = ds.length := by simp at hl; omega
  exact ⟨a, xs, v, rfl, rfl, h2, by rw [hl']; exact ev, hk _ _ _ (fun _ => False) _ _ q ⟨x1, ⟨hv, fun _ h => h⟩, fun _ h => h.elim, x2.frame fun a ha => ha.resolve_right id⟩⟩
/-- xs[i] = e -/
theorem tg_setL {i : Nat} {n : Int} {j : Nat} {ds : List PyData} {d : PyData} {r : Rt} {l : List Nat} {Qm : MS → Prop} (hd : asD K ρ r d ρ) (h : ev te ρ fun r1 ρ1 => r1 = .val (dat K (.int n)) ∧ ρ1 = ρ) (e : ρ[i]? = some (some (lo K ds))) (hj : ixN ds.length n = some j) (q : Qm (ρ.set i (some (lo K (ds.set j d))))) : tg [] (gSub (tVar i) te rSetL) r ρ Qm := by
  intro σ H0 H G v f k S hr hdis hk
  obtain ⟨H0', s0, hda, S1⟩ := hd.go S hr hdis
  obtain ⟨w, fw, ew, _⟩ := S1.get e
  refine ⟨w, ew, ?_⟩
  refine h σ H0' H G _ S1 fun r1 ρ1 v1 f1 H1 H1' ⟨er, eρ⟩ p1 => ?_
  subst er eρ
  have hv := p1.rt.1
  cases hv
  have S2 := p1.sat.frame (G' := G) fun _ => .inl
  obtain ⟨a, xs, rfl, h2, h3, hG, fin⟩ := mut_slot (es := ds.set j d) e S2 ew
  obtain ⟨x1, x2⟩ := fin _ (xs.set j v) rfl (h3.set (Da.mono p1.ext.s0 _ _ hda))
  refine ⟨a, xs, n, j, rfl, rfl, h2, by rw [h3.len]; exact hj, hk _ σ H1 _ q (fun _ _ => rfl) (fun _ _ => rfl) ⟨s0.trans p1.ext.s0, fun b hb => ?_⟩ x2⟩
  rw [x1.fr b hb, p1.ext.fr b hb]
end
end ML

namespace ML
open PySem PySem.Spec PyProof.Rows L2 KS GL LB
/-! ### dicts, keys ints and texts -/
section
variable {κ α : Type} [DecidableEq κ]
def mget (m : List (κ × α)) (k : κ) : Option α := (m.find? fun kv => decide (kv.1 = k)).map (·.2)
def mput (m : List (κ × α)) (k : κ) (v : α) : List (κ × α) := if (m.any fun kv => decide (kv.1 = k)) = true then m.map (fun kv => if kv.1 = k then (kv.1, v) else kv) else m ++ [(k, v)]
theorem mget_nil {k : κ} : mget ([] : List (κ × α)) k = none := rfl
theorem mget_pos {p : κ × α} {r : List (κ × α)} {k : κ} (e : p.1 = k) : mget (p :: r) k = some p.2 := by simp [mget, List.find?_cons, e]
theorem mget_neg {p : κ × α} {r : List (κ × α)} {k : κ} (e : ¬ p.1 = k) : mget (p :: r) k = mget r k := by simp [mget, List.find?_cons, e]
theorem mget_any (k : κ) : ∀ m : List (κ × α), (m.any fun kv => decide (kv.1 = k)) = (mget m k).isSome
  | [] => rfl
  | p :: r => by
    rw [List.any_cons]
    by_cases e : p.1 = k
    · simp only [mget_pos e, decide_eq_true e, Bool.true_or, Option.isSome_some]
    · rw [mget_neg e, decide_eq_false e, Bool.false_or]; exact mget_any k r
theorem mget_map (k j : κ) (y : α) : ∀ m : List (κ × α), mget (m.map fun kv => if kv.1 = k then (kv.1, y) else kv) j = (mget m j).map fun x => if j = k then y else x
  | [] => rfl
  | p :: r => by
    have ih := mget_map k j y r
    rw [List.map_cons]
    by_cases h : p.1 = k
    · rw [if_pos h]
      by_cases e : p.1 = j
      · rw [mget_pos (p := (p.1, y)) e, mget_pos e, Option.map_some, if_pos (e.symm.trans h)]
      · rw [mget_neg (p := (p.1, y)) e, mget_neg e, ih]
    · rw [if_neg h]
      by_cases e : p.1 = j
      · rw [mget_pos (p := p) e, mget_pos e, Option.map_some, if_neg (fun z => h (e.trans z))]
      · rw [mget_neg (p := p) e, mget_neg e, ih]
theorem mget_snoc (k j : κ) (y : α) : ∀ m : List (κ × α), mget m k = none → mget (m ++ [(k, y)]) j = if j = k then some y else mget m j
  | [], _ => by
    by_cases e : k = j
    · rw [if_pos e.symm]; exact mget_pos (p := (k, y)) e
    · rw [if_neg (fun z => e z.symm)]; exact mget_neg (p := (k, y)) e
  | p :: r, hn => by
    rw [List.cons_append]
    have hk : ¬ p.1 = k := fun z => by rw [mget_pos z] at hn; cases hn
    rw [mget_neg hk] at hn
    have ih := mget_snoc k j y r hn
    by_cases e : p.1 = j
    · rw [mget_pos e, mget_pos e, if_neg fun z => hk (e.trans z)]
    · rw [mget_neg e, mget_neg e, ih]
theorem mget_put (m : List (κ × α)) (k j : κ) (y : α) : mget (mput m k y) j = if j = k then some y else mget m j := by
  unfold mput
  rw [mget_any]
  cases h : mget m k with
  | none =>
    rw [if_neg (by simp)]
    exact mget_snoc k j y m h
  | some x =>
    rw [if_pos (by simp), mget_map]
    by_cases e : j = k
    · rw [e, h]
      simp
    · simp [e]
theorem mput_len (m : List (κ × α)) (k : κ) (y : α) : (mput m k y).length ≤ m.length + 1 := by
  unfold mput
  split <;> simp
theorem mput_new {m : List (κ × α)} {k : κ} {y : α} (h : mget m k = none) : mput m k y = m ++ [(k, y)] := by
  unfold mput
  rw [mget_any, h, if_neg (by simp)]
theorem mget_none {m : List (κ × α)} {k : κ} : mget m k = none ↔ k ∉ m.map (·.1) := by
  induction m with
  | nil => simp [mget]
  | cons p r ih =>
    by_cases e : p.1 = k
    · rw [mget_pos e]
      simp [e]
    · rw [mget_neg e, ih, List.map_cons, List.mem_cons]
      constructor
      · rintro h (z | z)
        · exact e z.symm
        · exact h z
      · exact fun h z => h (.inr z)
theorem mput_keys {m : List (κ × α)} {k : κ} {y : α} : (mput m k y).map (·.1) = if k ∈ m.map (·.1) then m.map (·.1) else m.map (·.1) ++ [k] := by
  by_cases h : k ∈ m.map (·.1)
  · rw [if_pos h]
    have : (mget m k).isSome = true := by
      cases e : mget m k with
      | none => exact absurd h (mget_none.mp e)
      | some _ => rfl
    unfold mput
    rw [mget_any, if_pos this, List.map_map]
    refine List.map_congr_left fun kv _ => ?_
    simp only [Function.comp]
    split <;> rfl
  · rw [if_neg h, mput_new (mget_none.mpr h), List.map_append]
    rfl
end
inductive DkAll (K : PySem.W.Frag) (H : Hp) : List (Key × V) → List (Key × PyData) → Prop
  | nil : DkAll K H [] []
  | cons {k : Key} {v : V} {d : PyData} {vs : List (Key × V)} {ds : List (Key × PyData)} : Da K H v d → DkAll K H vs ds → DkAll K H ((k, v) :: vs) ((k, d) :: ds)
section
variable {K : PySem.W.Frag} {H H' : Hp}
theorem DkAll.mono (s : Same H H') : ∀ {vs : List (Key × V)} {ds : List (Key × PyData)}, DkAll K H vs ds → DkAll K H' vs ds
  | _, _, .nil => .nil
  | _, _, .cons h t => .cons (Da.mono s _ _ h) (DkAll.mono s t)
theorem DkAll.len : ∀ {vs : List (Key × V)} {ds : List (Key × PyData)}, DkAll K H vs ds → vs.length = ds.length
  | _, _, .nil => rfl
  | _, _, .cons h t => by rw [List.length_cons, List.length_cons, DkAll.len t]
theorem DkAll.keys : ∀ {vs : List (Key × V)} {ds : List (Key × PyData)}, DkAll K H vs ds → vs.map (·.1) = ds.map (·.1)
  | _, _, .nil => rfl
  | _, _, .cons h t => by rw [List.map_cons, List.map_cons, DkAll.keys t]
theorem DkAll.get : ∀ {vs : List (Key × V)} {ds : List (Key × PyData)} (k : Key), DkAll K H vs ds → (valV vs k = none ∧ mget ds k = none) ∨ ∃ v d, valV vs k = some v ∧ mget ds k = some d ∧ Da K H v d
  | _, _, _, .nil => .inl ⟨rfl, rfl⟩
  | (k', v) :: _, (_, d) :: _, k, .cons h t => by
    by_cases e : k' = k
    · exact .inr ⟨v, d, valV_pos (p := (k', v)) e, mget_pos (p := (k', d)) e, h⟩
    · rw [valV_neg (p := (k', v)) e, mget_neg (p := (k', d)) e]
      exact DkAll.get k t
theorem DkAll.any : ∀ {vs : List (Key × V)} {ds : List (Key × PyData)} (k : Key), DkAll K H vs ds → (vs.any fun kv => decide (kv.1 = k)) = ds.any fun kv => decide (kv.1 = k)
  | _, _, _, .nil => rfl
  | _, _, k, .cons h t => by rw [List.any_cons, List.any_cons, DkAll.any k t]
theorem DkAll.map {v : V} {d : PyData} (k : Key) (hd : Da K H v d) : ∀ {vs : List (Key × V)} {ds : List (Key × PyData)}, DkAll K H vs ds → DkAll K H (vs.map fun kv => if kv.1 = k then (kv.1, v) else kv) (ds.map fun kv => if kv.1 = k then (kv.1, d) else kv)
  | _, _, .nil => .nil
  | (k', _) :: _, (_, _) :: _, .cons h t => by
    rw [List.map_cons, List.map_cons]
    by_cases e : k' = k
    · simp only [e, if_true]
      exact .cons hd (DkAll.map k hd t)
    · simp only [e, if_false]
      exact .cons h (DkAll.map k hd t)
theorem DkAll.snoc {v : V} {d : PyData} {k : Key} (hd : Da K H v d) : ∀ {vs : List (Key × V)} {ds : List (Key × PyData)}, DkAll K H vs ds → DkAll K H (vs ++ [(k, v)]) (ds ++ [(k, d)])
  | _, _, .nil => .cons hd .nil
  | _, _, .cons h t => .cons h (DkAll.snoc hd t)
theorem DkAll.put {v : V} {d : PyData} {k : Key} (hd : Da K H v d) {vs : List (Key × V)} {ds : List (Key × PyData)} (h : DkAll K H vs ds) : DkAll K H (putK vs k v) (mput ds k d) := by
  unfold putK mput
  rw [h.any k]
  split
  · exact h.map k hd
  · exact h.snoc hd
end
/-- a dict of one's own -/
def dk (K : PySem.W.Frag) (m : List (Key × PyData)) : Res := ⟨fun H0 H v f => ∃ a vs, v = .ref a ∧ (∀ b, f b ↔ b = a) ∧ H0 a = none ∧ H a = some (.dK vs) ∧ DkAll K H0 vs m,
  fun {H0 H0' H H' v f} ⟨a, xs, e, hf, h1, h2, h3⟩ s hk => ⟨a, xs, e, hf, (hk a ((hf a).mpr rfl)).2, by rw [(hk a ((hf a).mpr rfl)).1]; exact h2, h3.mono s⟩,
  fun {H0 H v f b} ⟨a, xs, e, hf, h1, h2, h3⟩ hb => by
    obtain rfl := (hf b).mp hb
    exact ⟨by rw [h2]; exact Option.some_ne_none _, h1⟩⟩
def dictP (K : PySem.W.Frag) (m : List (Key × PyData)) : Pd := ⟨fun H v => ∃ a vs, v = .ref a ∧ H a = some (.dK vs) ∧ DkAll K H vs m, fun {H H' v} ⟨a, vs, e, h1, h2⟩ s => ⟨a, vs, e, s _ _ h1, h2.mono s⟩⟩
/-- a dict that stands -/
abbrev ddk (K : PySem.W.Frag) (m : List (Key × PyData)) : Res := pu (dictP K m)
def keyD : Key → PyData
  | .inl n => .int n
  | .inr z => .str z
theorem key_da {K : PySem.W.Frag} {H : Hp} {k : Key} {v : V} (h : Da K H v (keyD k)) : v = kV k := by
  cases k <;> (cases h; rfl)
theorem da_key {K : PySem.W.Frag} {H : Hp} (k : Key) : Da K H (kV k) (keyD k) := by
  cases k
  · exact .int _
  · exact .str _
section
variable {K : PySem.W.Frag} {ρ : MS} {Q : Rt → MS → Prop} {Qb : Bool → MS → Prop} {ta tb te tc td ty tv : TE} {t u : TT} {np : Nat} {Φ : Out} {ts us : TS} {r1 r2 : Rt}
/-- reads as a dict -/
inductive rdD (K : PySem.W.Frag) (ρ : MS) : Rt → List (Key × PyData) → Prop
  | val {m : List (Key × PyData)} : rdD K ρ (.val (ddk K m)) m
  | own {m : List (Key × PyData)} : rdD K ρ (.val (dk K m)) m
  | slot {i : Nat} {m : List (Key × PyData)} : ρ[i]? = some (some (dk K m)) → rdD K ρ (.at i) m
  | slotP {i : Nat} {m : List (Key × PyData)} : ρ[i]? = some (some (ddk K m)) → rdD K ρ (.at i) m
theorem rdD.get {r : Rt} {m : List (Key × PyData)} {σ : L2.St} {H0 H : Hp} {G : FP} {v : V} {f : FP} (h : rdD K ρ r m) (S : Sat ρ σ H0 H G) (hr : RtH r σ H0 H v f) : ∃ a vs, v = .ref a ∧ H a = some (.dK vs) ∧ DkAll K H0 vs m := by
  cases h with
  | val =>
    obtain ⟨a, vs, e, h1, h2⟩ := hr.1
    exact ⟨a, vs, e, S.same _ _ h1, h2⟩
  | own =>
    obtain ⟨a, vs, e, _, _, h1, h2⟩ := hr
    exact ⟨a, vs, e, h1, h2⟩
  | slot h1 =>
    obtain ⟨w, f', e, q, _⟩ := S.get h1
    obtain rfl : w = v := Option.some.inj (Option.some.inj (e.symm.trans hr.1))
    obtain ⟨a, vs, e, _, _, h1, h2⟩ := q
    exact ⟨a, vs, e, h1, h2⟩
  | slotP h1 =>
    obtain ⟨w, f', e, q, _⟩ := S.get h1
    obtain rfl : w = v := Option.some.inj (Option.some.inj (e.symm.trans hr.1))
    obtain ⟨a, vs, e, h1, h2⟩ := q.1
    exact ⟨a, vs, e, S.same _ _ h1, h2⟩
theorem ev_dnew (q : Q (.val (dk K [])) ρ) : ev tDNewK ρ Q := by
  intro σ H0 H G k S hk p hp
  exact hk _ _ _ (fun a => a = p) _ _ q ⟨⟨Same.refl _, fun a ha => upd_ne fun e => (S.fr a ha).1 (e ▸ hp)⟩, ⟨p, [], rfl, fun _ => Iff.rfl, S.same.free hp, upd_same, .nil⟩, fun a e ha => (S.fr a ha).1 (e ▸ hp), S.own hp⟩
/-- a written dict's pairs -/
def evPs (K : PySem.W.Frag) (trs : List (TE × TE)) (ρ : MS) (Q : List (Key × PyData) → MS → Prop) : Prop := ∀ (σ : L2.St) (H0 H : Hp) (G : FP) (k : List (V × V) → Hp → Prop), Sat ρ σ H0 H G →
  (∀ m ρ' ps H0' H', Q m ρ' → Ext G H0 H H0' H' → (∃ vs, ps = vs.map (fun kv : Key × V => (kV kv.1, kv.2)) ∧ DkAll K H0' vs m) → Sat ρ' σ H0' H' G → k ps H') → tPairs trs σ H k
theorem evPs_nil {Q : List (Key × PyData) → MS → Prop} (q : Q [] ρ) : evPs K [] ρ Q := fun σ H0 H G k S hk => hk [] ρ [] H0 H q Ext.refl ⟨[], rfl, .nil⟩ S
theorem evPs_cons {trs : List (TE × TE)} {Q : List (Key × PyData) → MS → Prop} (h : ev ta ρ fun r ρ1 => ∃ x, r = .val (dat K (keyD x)) ∧ ev tb ρ1 fun r2 ρ2 => ∃ d ρ3, asD K ρ2 r2 d ρ3 ∧ evPs K trs ρ3 fun m ρ4 => Q ((x, d) :: m) ρ4) : evPs K ((ta, tb) :: trs) ρ Q := by
  intro σ H0 H G k S hk
  refine h σ H0 H G _ S fun r1 ρ1 v1 f1 H1 H1' ⟨x, e, h1⟩ p1 => ?_
  subst e
  have hv := key_da p1.rt.1
  subst hv
  refine h1 σ H1 H1' G _ (p1.sat.frame fun _ => .inl) fun r2 ρ2 v2 f2 H2 H2' ⟨d, ρ3, ha, h2⟩ p2 => ?_
  obtain ⟨H3, s3, hda, S3⟩ := ha.go p2.sat p2.rt p2.dis
  refine h2 σ H3 H2' G _ S3 fun m ρ4 ps H4 H4' h4 e4 ⟨vs, ep, hvs⟩ S4 => ?_
  subst ep
  exact hk _ ρ4 _ H4 H4' h4 ⟨((p1.ext.s0.trans p2.ext.s0).trans s3).trans e4.s0, fun a ha => ((e4.fr a ha).trans (p2.ext.fr a ha)).trans (p1.ext.fr a ha)⟩ ⟨(x, v2) :: vs, rfl, .cons (Da.mono e4.s0 _ _ hda) hvs⟩ S4
def mmerge (m : List (Key × PyData)) : List (Key × PyData) := m.foldl (fun acc kv => mput acc kv.1 kv.2) []
theorem dk_merge {H : Hp} : ∀ {vs : List (Key × V)} {m : List (Key × PyData)} {ws : List (Key × V)} {n : List (Key × PyData)}, DkAll K H vs m → DkAll K H ws n → DkAll K H (mergeK ws vs) (m.foldl (fun acc kv => mput acc kv.1 kv.2) n)
  | [], [], ws, n, .nil, h => h
  | (k, v) :: vs, (_, d) :: m, ws, n, .cons h t, h2 => by
    unfold mergeK
    rw [List.foldl_cons, List.foldl_cons]
    exact dk_merge t (h2.put h)
theorem ev_disp {trs : List (TE × TE)} (h : evPs K trs ρ fun m ρ1 => m.length ≤ 15 ∧ Q (.val (dk K (mmerge m))) ρ1) : ev (tDisp trs) ρ Q := by
  intro σ H0 H G k S hk p hp
  have hG : ¬ G p := fun e => (S.fr p e).1 hp
  refine h σ H0 (upd H p (.dK [])) (fun a => G a ∨ a = p) _ (S.own hp) fun m ρ1 ps H1 H1' ⟨hl, q⟩ e1 ⟨vs, ep, hvs⟩ S1 => ?_
  subst ep
  have hp1 : H1' p = some (.dK []) := by rw [e1.fr p (.inr rfl), upd_same]
  refine ⟨hp1, vs, rfl, by rw [hvs.len]; exact hl, hk _ _ _ (fun a => a = p) H1 _ q ⟨⟨e1.s0, fun a ha => ?_⟩, ⟨p, _, rfl, fun _ => Iff.rfl, (S1.fr p (.inr rfl)).2, upd_same, dk_merge hvs .nil⟩, fun a e => e ▸ hG, S1.mut (fun a ha => upd_ne ha) fun a ha => ?_⟩⟩
  · have ap : a ≠ p := fun e => hG (e ▸ ha)
    rw [upd_ne ap, e1.fr a (.inl ha), upd_ne ap]
  · rw [ha, upd_same]
    exact Option.some_ne_none _
theorem ev_dget {m : List (Key × PyData)} (h : ev td ρ fun r1 ρ1 => ev ty ρ1 fun r2 ρ2 => ∃ m x d, rdD K ρ2 r1 m ∧ r2 = .val (dat K (keyD x)) ∧ mget m x = some d ∧ Q (.val (dat K d)) ρ2) : ev (tDGet td ty) ρ Q := by
  refine ev_op (r := fun x y H Q => ∃ a v, x = V.ref a ∧ DGet H a y (some v) ∧ Q v H) (ev_mono h fun r1 ρ1 h1 => ev_mono h1 fun r2 ρ2 ⟨m, x, d, hd, e2, hm, q⟩ => ?_)
  intro σ H0 H G v1 v2 f1 f2 k S e1 e2' _ _ _ hk
  subst e2
  obtain rfl := key_da e2'.1
  obtain ⟨a, vs, rfl, ha, hvs⟩ := hd.get S e1
  rcases hvs.get x with ⟨_, e⟩ | ⟨v, d', e3, e4, hda⟩
  · rw [hm] at e; cases e
  · rw [hm] at e4
    cases e4
    refine ⟨a, v, rfl, ?_, hk _ _ _ _ _ _ q (post_pure (S.frame fun _ => .inl) hda)⟩
    rw [← e3]
    exact DGet.k ha
theorem ev_din (h : ev ty ρ fun r2 ρ2 => ev td ρ2 fun r1 ρ1 => ∃ m x, rdD K ρ1 r1 m ∧ r2 = .val (dat K (keyD x)) ∧ Q (.val (dat K (.bool (mget m x).isSome))) ρ1) : ev (tDIn ty td) ρ Q := by
  refine ev_op (r := fun y x H Q => ∃ a o, x = V.ref a ∧ DGet H a y o ∧ Q (.bl o.isSome) H) (ev_mono h fun r1 ρ1 h1 => ev_mono h1 fun r2 ρ2 ⟨m, x, hd, e2, q⟩ => ?_)
  intro σ H0 H G v1 v2 f1 f2 k S e1 e2' _ _ _ hk
  subst e2
  obtain rfl := key_da e1.1
  obtain ⟨a, vs, rfl, ha, hvs⟩ := hd.get S e2'
  refine ⟨a, valV vs x, rfl, DGet.k ha, ?_⟩
  have : (valV vs x).isSome = (mget m x).isSome := by
    rcases hvs.get x with ⟨e3, e4⟩ | ⟨v, d', e3, e4, _⟩ <;> rw [e3, e4] <;> rfl
  rw [this]
  exact hk _ _ _ _ _ _ q (post_sc S (fun _ => .inl) (.bl _))
theorem ev_dnotin (h : ev ty ρ fun r2 ρ2 => ev td ρ2 fun r1 ρ1 => ∃ m x, rdD K ρ1 r1 m ∧ r2 = .val (dat K (keyD x)) ∧ Q (.val (dat K (.bool (!(mget m x).isSome)))) ρ1) : ev (tDNotIn ty td) ρ Q := by
  refine ev_op (r := fun y x H Q => ∃ a o, x = V.ref a ∧ DGet H a y o ∧ Q (.bl (!o.isSome)) H) (ev_mono h fun r1 ρ1 h1 => ev_mono h1 fun r2 ρ2 ⟨m, x, hd, e2, q⟩ => ?_)
  intro σ H0 H G v1 v2 f1 f2 k S e1 e2' _ _ _ hk
  subst e2
  obtain rfl := key_da e1.1
  obtain ⟨a, vs, rfl, ha, hvs⟩ := hd.get S e2'
  refine ⟨a, valV vs x, rfl, DGet.k ha, ?_⟩
  have : (valV vs x).isSome = (mget m x).isSome := by
    rcases hvs.get x with ⟨e3, e4⟩ | ⟨v, d', e3, e4, _⟩ <;> rw [e3, e4] <;> rfl
  rw [this]
  exact hk _ _ _ _ _ _ q (post_sc S (fun _ => .inl) (.bl _))
/-- d.get(k, e), the default a datum -/
theorem ev_dget2 (h : ev td ρ fun r1 ρ1 => (∃ m, rdD K ρ1 r1 m) ∧ ev ty ρ1 fun r2 ρ2 => ∃ x, r2 = .val (dat K (keyD x)) ∧ ev tb ρ2 fun r3 ρ3 => ∃ m d ρ4, asD K ρ3 r3 d ρ4 ∧ rdD K ρ4 r1 m ∧ Q (.val (dat K ((mget m x).getD d))) ρ4) : ev (tDGet2 td ty tb) ρ Q := by
  intro σ H0 H G k S hk
  refine h σ H0 H G _ S fun r1 ρ1 v1 f1 H1 H1' ⟨⟨m0, hm0⟩, h1⟩ p1 => ?_
  obtain ⟨a0, vs0, e0, ha0, hvs0⟩ := hm0.get p1.sat p1.rt
  refine ⟨a0, e0, .inl ⟨vs0, .inl ha0⟩, ?_⟩
  refine h1 σ H1 H1' (fun a => G a ∨ f1 a) _ p1.sat fun r2 ρ2 v2 f2 H2 H2' ⟨x, ex, h2⟩ p2 => ?_
  subst ex
  obtain rfl := key_da p2.rt.1
  have rt1 : RtH r1 σ H2 H2' v1 f1 := p1.rt.loc p2.ext.s0 fun a ha => ⟨p2.ext.fr a (.inr ha), (p2.sat.fr a (.inl (.inr ha))).2⟩
  refine h2 σ H2 H2' (fun a => G a ∨ f1 a) _ (p2.sat.frame fun _ => .inl) fun r3 ρ3 v3 f3 H3 H3' ⟨m, d, ρ4, ha, hm, q⟩ p3 => ?_
  obtain ⟨H4, s4, hda, S4⟩ := ha.go p3.sat p3.rt p3.dis
  have rt2 : RtH r1 σ H4 H3' v1 f1 := rt1.loc (p3.ext.s0.trans s4) fun a ha => ⟨p3.ext.fr a (.inr ha), (S4.fr a (.inr ha)).2⟩
  obtain ⟨a, vs, e, ha', hvs⟩ := hm.get S4 rt2
  obtain rfl : a0 = a := by rw [e0] at e; exact V.ref.inj e
  refine ⟨valV vs x, DGet.k ha', ?_⟩
  have S5 := S4.frame (G' := G) fun _ => .inl
  have e5 : Ext G H0 H H4 H3' := ⟨((p1.ext.s0.trans p2.ext.s0).trans p3.ext.s0).trans s4, fun b hb => ((p3.ext.fr b (.inl hb)).trans (p2.ext.fr b (.inl hb))).trans (p1.ext.fr b hb)⟩
  rcases hvs.get x with ⟨e3, e4⟩ | ⟨v, d', e3, e4, hd'⟩
  · rw [e3]
    rw [e4] at q
    exact hk _ _ _ _ _ _ q (post_ext e5 (post_pure S5 hda))
  · rw [e3]
    rw [e4] at q
    exact hk _ _ _ _ _ _ q (post_ext e5 (post_pure S5 hd'))
/-- d.get(k) -/
theorem ev_dget1 (h : ev td ρ fun r1 ρ1 => (∃ m, rdD K ρ1 r1 m) ∧ ev ty ρ1 fun r2 ρ2 => ∃ m x, r2 = .val (dat K (keyD x)) ∧ rdD K ρ2 r1 m ∧ Q (.val (dat K ((mget m x).getD .none))) ρ2) : ev (tDGet1 td ty) ρ Q := by
  intro σ H0 H G k S hk
  refine h σ H0 H G _ S fun r1 ρ1 v1 f1 H1 H1' ⟨⟨m0, hm0⟩, h1⟩ p1 => ?_
  obtain ⟨a0, vs0, e0, ha0, hvs0⟩ := hm0.get p1.sat p1.rt
  refine ⟨a0, e0, .inl ⟨vs0, .inl ha0⟩, ?_⟩
  refine h1 σ H1 H1' (fun a => G a ∨ f1 a) _ p1.sat fun r2 ρ2 v2 f2 H2 H2' ⟨m, x, ex, hm, q⟩ p2 => ?_
  subst ex
  obtain rfl := key_da p2.rt.1
  have rt1 : RtH r1 σ H2 H2' v1 f1 := p1.rt.loc p2.ext.s0 fun a ha => ⟨p2.ext.fr a (.inr ha), (p2.sat.fr a (.inl (.inr ha))).2⟩
  obtain ⟨a, vs, e, ha', hvs⟩ := hm.get p2.sat rt1
  obtain rfl : a0 = a := by rw [e0] at e; exact V.ref.inj e
  refine ⟨valV vs x, DGet.k ha', ?_⟩
  have S5 := p2.sat.frame (G' := G) fun _ h => .inl (.inl h)
  have e5 : Ext G H0 H H2 H2' := p1.ext.trans (p2.ext.weak fun _ => .inl)
  rcases hvs.get x with ⟨e3, e4⟩ | ⟨v, d', e3, e4, hd'⟩
  · rw [e3]
    rw [e4] at q
    exact hk _ _ _ _ _ _ q (post_ext e5 (post_pure S5 .non))
  · rw [e3]
    rw [e4] at q
    exact hk _ _ _ _ _ _ q (post_ext e5 (post_pure S5 hd'))
theorem mut_dict {i : Nat} {m n : List (Key × PyData)} {σ : L2.St} {H0 H : Hp} {G : FP} {v : V} (e : ρ[i]? = some (some (dk K m))) (S : Sat ρ σ H0 H G) (hv : σ[i]? = some (some v)) : ∃ a vs, v = .ref a ∧ H a = some (.dK vs) ∧ DkAll K H0 vs m ∧ ¬ G a ∧
    ∀ ws : List (Key × V), DkAll K H0 ws n → Ext G H0 H H0 (upd H a (.dK ws)) ∧ Sat (ρ.set i (some (dk K n))) σ H0 (upd H a (.dK ws)) G := by
  obtain ⟨w, f, ew, ⟨a, xs, rfl, hf, h1, h2, h3⟩, d, S2⟩ := S.take e
  obtain rfl : V.ref a = v := Option.some.inj (Option.some.inj (ew.symm.trans hv))
  have hGa : ¬ G a := d a ((hf a).mpr rfl)
  refine ⟨a, xs, rfl, h2, h3, hGa, fun ys hy => ⟨⟨Same.refl _, fun b hb => upd_ne fun z => hGa (z ▸ hb)⟩, ?_⟩⟩
  have S3 : Sat (ρ.set i none) σ H0 (upd H a (.dK ys)) fun b => G b ∨ f b := S2.mut (fun b hb => upd_ne fun z => hb ((hf b).mpr z)) fun b hb => by
    rw [(hf b).mp hb, upd_same]
    exact Option.some_ne_none _
  exact S3.back (R := dk K n) hv ⟨a, ys, rfl, hf, h1, upd_same, hy⟩ d
/-- d[k] = e -/
theorem ex_dput {i : Nat} (h : ev tv ρ fun r ρ1 => ∃ d ρ2, asD K ρ1 r d ρ2 ∧ (∃ R, ρ2[i]? = some (some R)) ∧ ev ty ρ2 fun r2 ρ3 => ∃ m x, r2 = .val (dat K (keyD x)) ∧ ρ3[i]? = some (some (dk K m)) ∧ m.length < sizeLine ∧ Φ.nx (ρ3.set i (some (dk K (mput m x d))))) : ex np (sDPut (tVar i) ty tv) ρ Φ := by
  intro σ H0 H G D S kn _ _ _
  refine h σ H0 H G _ S fun r ρ1 v f H1 H1' ⟨d, ρ2, ha, ⟨R, hR⟩, h1⟩ p1 => ?_
  obtain ⟨H2, s2, hda, S2⟩ := ha.go p1.sat p1.rt p1.dis
  obtain ⟨w, _, ew, _⟩ := S2.get hR
  refine ⟨w, ew, h1 σ H2 H1' G _ S2 fun r2 ρ3 v2 f2 H3 H3' ⟨m, x, e2, hm, hl, q⟩ p3 => ?_⟩
  subst e2
  obtain rfl := key_da p3.rt.1
  have S3 := p3.sat.frame (G' := G) fun _ => .inl
  obtain ⟨a, vs, rfl, h2, h3, hG, fin⟩ := mut_dict (n := mput m x d) hm S3 ew
  obtain ⟨x1, x2⟩ := fin _ (h3.put (Da.mono p3.ext.s0 _ _ hda))
  refine ⟨a, _, rfl, DPut.k h2 (by rw [h3.len]; exact hl), kn _ σ H3 _ q rfl ⟨(p1.ext.s0.trans s2).trans p3.ext.s0, fun b hb => ?_⟩ x2⟩
  rw [x1.fr b hb, p3.ext.fr b hb, p1.ext.fr b hb]
/-- len(d) -/
theorem un_lenD {m : List (Key × PyData)} (h : rdD K ρ r1 m) (q : Q (.val (dat K (.int m.length))) ρ) : unR (fun v H k => ∃ a kvs, [v] = [V.ref a] ∧ H a = some (.dK kvs) ∧ k (.int kvs.length) H) r1 ρ Q := by
  intro σ H0 H G v1 f1 k S e1 _ hk
  obtain ⟨a, vs, rfl, ha, hvs⟩ := h.get S e1
  refine ⟨a, vs, rfl, ha, ?_⟩
  rw [hvs.len]
  exact hk _ _ _ _ _ _ q (post_sc S (fun _ => .inl) (.int _))
/-- list(d) -/
theorem un_listK {m : List (Key × PyData)} (h : rdD K ρ r1 m) (q : Q (.val (lo K (m.map fun kv => keyD kv.1))) ρ) : unR (fun v H k => rListD [v] H k) r1 ρ Q := by
  intro σ H0 H G v1 f1 k S e1 _ hk
  obtain ⟨a, vs, rfl, ha, hvs⟩ := h.get S e1
  have hkeys : DaAll K H0 (vs.map fun kv => kV kv.1) (m.map fun kv => keyD kv.1) := by
    have : ∀ {vs : List (Key × V)} {m : List (Key × PyData)}, DkAll K H0 vs m → DaAll K H0 (vs.map fun kv => kV kv.1) (m.map fun kv => keyD kv.1) := by
      intro vs m h
      induction h with
      | nil => exact .nil
      | cons h t ih => exact .cons (da_key _) ih
    exact this hvs
  refine ⟨a, vs, rfl, ha, fun l hl => ?_⟩
  exact hk _ _ _ _ _ _ q (post_own (S.frame fun _ => .inl) hl hkeys)
end
end ML

namespace ML
open PySem PySem.Spec PyProof.Rows L2 KS GL LB
/-! ### the deck -/
def deck (n : Nat) : Res := ⟨fun H0 H v f => ∃ d c, v = .ref d ∧ (∀ a, f a ↔ a = d ∨ a = c) ∧ H0 d = none ∧ H0 c = none ∧ Dk H d c n,
  fun {H0 H0' H H' v f} ⟨d, c, e, hf, h1, h2, ⟨⟨ns, m, t, a1, a2, a3⟩⟩⟩ s hk => ⟨d, c, e, hf, (hk d ((hf d).mpr (.inl rfl))).2, (hk c ((hf c).mpr (.inr rfl))).2, ⟨⟨ns, m, t, by rw [(hk d ((hf d).mpr (.inl rfl))).1]; exact a1, by rw [(hk c ((hf c).mpr (.inr rfl))).1]; exact a2, a3⟩⟩⟩,
  fun {H0 H v f b} ⟨d, c, e, hf, h1, h2, ⟨⟨ns, m, t, a1, a2, a3⟩⟩⟩ hb => by
    rcases (hf b).mp hb with rfl | rfl
    · exact ⟨by rw [a1]; exact Option.some_ne_none _, h1⟩
    · exact ⟨by rw [a2]; exact Option.some_ne_none _, h2⟩⟩
def scriptP (K : PySem.W.Frag) (ns : List Int) : Pd := ⟨fun H v => ∃ a, v = .ref a ∧ SqL K H a (ns.map V.int), fun {H H' v} ⟨a, e, h⟩ s => ⟨a, e, s.seq h⟩⟩
def drawM (K : PySem.W.Frag) : MSp := fun Rs q => ∃ (n : Nat) (many : Int), Rs = [deck n, dat K (.int many)] ∧ 1 ≤ many ∧ many < 2 ^ 30 ∧ n < 2 ^ 40 ∧ ∀ k : Int, 0 ≤ k → k < many → q (dat K (.int k)) [deck (n + 1)]
def pickM (K : PySem.W.Frag) : MSp := fun Rs q => ∃ (n : Nat) (ds : List PyData) (d0 : PyData), Rs = [deck n, dat K d0] ∧ (d0 = .list ds ∨ d0 = .tuple ds) ∧ 1 ≤ ds.length ∧ ds.length < 2 ^ 30 ∧ n < 2 ^ 40 ∧ ∀ d ∈ ds, q (dat K d) [deck (n + 1)]
def deckM (K : PySem.W.Frag) : MSp := fun Rs q => ∃ ns, Rs = [pu (scriptP K ns)] ∧ q (deck 0) []
def lawM (K : PySem.W.Frag) : MSp := fun Rs q => ∃ ns, Rs = [pu (scriptP K ns)] ∧ ns.length ≤ 63 ∧ q (dat K (.bool true)) []
section
variable {P : Program} {w : World} {K : PySem.W.Frag} {mg : Str → Option Value} {base : Heap} {CX : CXT} {k : Nat} {f : Addr} {fd : FuncData} {ps : List Str} {sp sp' : Sp}
/-- a promise that asks more -/
theorem _root_.GL.FnG.conv (F : FnG P w K mg base CX k f fd ps sp) (h : ∀ vs H Q E, sp' vs H Q E → sp vs H Q E) : FnG P w K mg base CX k f fd ps sp' := ⟨fun vs H Q E z => F.len vs H Q E (h _ _ _ _ z), fun A outer s H args us vs Q E hr e0 hb r z => F.run A outer s H args us vs Q E hr e0 hb r (h _ _ _ _ z)⟩
/-- the def named x stands and keeps its promise -/
structure HasM (P : Program) (w : World) (K : PySem.W.Frag) (mg : Str → Option Value) (base : Heap) (x : Str) (k : Nat) (ps : List Str) (sp : Sp) : Prop where
  ex : ∃ f fd, FnG P w K mg base CX0 k f fd ps sp ∧ mg x = some (.ref f) ∧ PySem.W.keepIn K (.ref f) = true ∧ Binds K fd ps []
theorem HasM.of {x : Str} (h : Has P w K mg base x k ps sp) (hc : ∀ vs H Q E, sp' vs H Q E → sp vs H Q E) : HasM P w K mg base x k ps sp' := by
  obtain ⟨f, fd, F, r⟩ := h.ex
  exact ⟨f, fd, (FnG.of F).conv hc, r⟩
theorem HasM.conv {x : Str} (h : HasM P w K mg base x k ps sp) (hc : ∀ vs H Q E, sp' vs H Q E → sp vs H Q E) : HasM P w K mg base x k ps sp' := by
  obtain ⟨f, fd, F, r⟩ := h.ex
  exact ⟨f, fd, F.conv hc, r⟩
theorem pe_hg {X : Cx} {x : Str} {e : Expr} {es : List Expr} {t : TA} {p pos : Pos} (h : HasM X.prog X.w X.K X.mg X.base x k ps sp) (hr : RoomG k X.A) (hg : Gl X x) (ha : PA X (e :: es) t) (hdb : (x == ("__debug__" : Str)) = false := by decide)
    (he : starEach (e :: es) X.env = (false, eval e X.env) :: starEach es X.env := by rfl) (hpl : (backTo pos (starEach es X.env)).any (·.1) = false := by rfl) : PE X (.Call (.Name x p) (e :: es) [] pos) (tCall sp [] E0 t) := by
  obtain ⟨f, fd, F, hm, hk, hb⟩ := h.ex
  exact pe_callG F hr hg hm hk hb .nil pass0 ha hdb he hpl
end
/-- two arguments, the first a thing of one's own -/
theorem sat_two {R : Res} {Q : Pd} {vs : List V} {H0 H : Hp} {G : FP} (S : Sat [some R, some (pu Q)] (vs.map some) H0 H G) : ∃ v w f, vs = [v, w] ∧ R.holds H0 H v f ∧ (∀ a, f a → ¬ G a) ∧ Q.p H0 w := by
  have hl := S.len
  obtain ⟨v, f, e1, r, d⟩ := S.get (i := 0) (R := R) rfl
  obtain ⟨w, g, e2, q, _⟩ := S.get (i := 1) (R := pu Q) rfl
  match vs, hl with
  | [v', w'], _ =>
    obtain rfl : v' = v := Option.some.inj (Option.some.inj e1)
    obtain rfl : w' = w := Option.some.inj (Option.some.inj e2)
    exact ⟨v', w', f, rfl, r, d, q.1⟩
/-- all but the deck -/
def allBut (H : Hp) (d c : Addr) : Hp := fun a => if a = d ∨ a = c then none else H a
theorem allBut_bk {H : Hp} {d c : Addr} {n : Nat} (D : Dk H d c n) : Bk (allBut H d c) H d c n := ⟨fun a u e => by
  unfold allBut at e
  split at e
  · cases e
  · exact e, by simp [allBut], by simp [allBut], D⟩
theorem allBut_same {H H' : Hp} {d c : Addr} (s : Same (allBut H d c) H') {a : Addr} (h1 : a ≠ d) (h2 : a ≠ c) (hl : H a ≠ none) : H' a = H a := by
  cases e : H a with
  | none => exact absurd e hl
  | some u => exact s a u (by unfold allBut; rw [if_neg (by simp [h1, h2])]; exact e)
theorem sat_deck {H0 H H' : Hp} {G : FP} {d c : Addr} {m : Nat} {R : Res} (S : Sat [some R] (([V.ref d] : List V).map some) H0 H G) (hR : R.holds H0 H (.ref d) fun a => a = d ∨ a = c) (dis : ∀ a, (a = d ∨ a = c) → ¬ G a) (h1 : H0 d = none) (h2 : H0 c = none) (B : Bk (allBut H d c) H' d c m) :
    Ext G H0 H H0 H' ∧ Sat [some (deck m)] (([V.ref d] : List V).map some) H0 H' fun a => G a ∨ False := by
  have hG : ∀ a, G a → H' a = H a := fun a ha => allBut_same B.same (fun e => dis a (.inl e) ha) (fun e => dis a (.inr e) ha) (S.fr a ha).1
  refine ⟨⟨Same.refl _, hG⟩, fun b u e => ?_, rfl, fun a ha => ?_, fun j => if j = 0 then fun a => a = d ∨ a = c else fun _ => False, fun i R' hR' => ?_, fun i j a ha hb => ?_, fun i a ha hg => ?_, fun i a ha => ?_⟩
  · have e2 := S.same b u e
    rw [allBut_same B.same (fun z => by rw [z, h1] at e; cases e) (fun z => by rw [z, h2] at e; cases e) (by rw [e2]; exact Option.some_ne_none _)]
    exact e2
  · have ha := ha.resolve_right id
    refine ⟨?_, (S.fr a ha).2⟩
    rw [hG a ha]
    exact (S.fr a ha).1
  · cases i with
    | zero =>
      obtain rfl : deck m = R' := Option.some.inj (Option.some.inj hR')
      exact ⟨.ref d, rfl, d, c, rfl, fun _ => Iff.rfl, h1, h2, B.dk⟩
    | succ i => cases hR'
  · by_cases hi : i = 0 <;> by_cases hj : j = 0
    · rw [hi, hj]
    · simp only [hj, if_false] at hb
    · simp only [hi, if_false] at ha
    · simp only [hi, if_false] at ha
  · by_cases hi : i = 0
    · simp only [hi, if_true] at ha
      exact dis a ha (hg.resolve_right id)
    · simp only [hi, if_false] at ha
  · by_cases hi : i = 0
    · subst hi
      exact ⟨_, rfl⟩
    · simp only [hi, if_false] at ha
section
variable {K : PySem.W.Frag}
theorem draw_conv (vs : List V) (H : Hp) (Q : VK) (E : XK) (h : spOf 1 (drawM K) vs H Q E) : spDraw vs H Q E := by
  obtain ⟨Rs, H0, G, q, S, ⟨n, many, rfl, h1, h2, h3, hq⟩, fin⟩ := h
  obtain ⟨v, w, f, rfl, ⟨d, c, rfl, hf, z1, z2, D⟩, dis, hw⟩ := sat_two S
  cases hw
  have S1 : Sat [some (deck n)] (([V.ref d] : List V).map some) H0 H G := S.takeN 1
  have dis' : ∀ a, (a = d ∨ a = c) → ¬ G a := fun a ha => dis a ((hf a).mpr ha)
  refine ⟨allBut H d c, d, c, n, many, rfl, allBut_bk D, h1, h2, h3, fun k H' k0 k1 B => ?_⟩
  obtain ⟨x1, x2⟩ := sat_deck S1 ⟨d, c, rfl, fun _ => Iff.rfl, z1, z2, D⟩ dis' z1 z2 B
  exact fin _ _ (hq k k0 k1) _ (fun _ => False) H0 H' x1 ⟨.int k, fun _ h => h⟩ (fun _ h => h.elim) x2
theorem da_mem {H : Hp} : ∀ {xs : List V} {ds : List PyData} {v : V}, DaAll K H xs ds → v ∈ xs → ∃ d ∈ ds, Da K H v d
  | _, _, _, .nil, h => by cases h
  | x :: xs, d :: ds, v, .cons h t, hv => by
    rcases List.mem_cons.mp hv with rfl | hv
    · exact ⟨d, List.mem_cons_self, h⟩
    · obtain ⟨e, he, hd⟩ := da_mem t hv
      exact ⟨e, List.mem_cons_of_mem _ he, hd⟩
theorem pick_conv (vs : List V) (H : Hp) (Q : VK) (E : XK) (h : spOf 1 (pickM K) vs H Q E) : spPick K vs H Q E := by
  obtain ⟨Rs, H0, G, q, S, ⟨n, ds, d0, rfl, h0, h1, h2, h3, hq⟩, fin⟩ := h
  obtain ⟨v, w, f, rfl, ⟨d, c, rfl, hf, z1, z2, D⟩, dis, hw⟩ := sat_two S
  have S1 : Sat [some (deck n)] (([V.ref d] : List V).map some) H0 H G := S.takeN 1
  have dis' : ∀ a, (a = d ∨ a = c) → ¬ G a := fun a ha => dis a ((hf a).mpr ha)
  have sub : Same H0 (allBut H d c) := fun b u e => by
    unfold allBut
    rw [if_neg]
    · exact S.same b u e
    · rintro (z | z)
      · rw [z, z1] at e; cases e
      · rw [z, z2] at e; cases e
  have seq : ∃ a xs, w = .ref a ∧ (SqL K H0 a xs ∨ SqT K H0 a xs) ∧ DaAll K H0 xs ds := by
    rcases h0 with rfl | rfl
    · cases hw with
      | lst a1 a2 => exact ⟨_, _, rfl, .inl (.inl (.inl a1)), a2⟩
    · cases hw with
      | tup a1 a2 => exact ⟨_, _, rfl, .inr a1, a2⟩
  obtain ⟨a, xs, rfl, hs, hx⟩ := seq
  refine ⟨allBut H d c, d, c, a, n, xs, rfl, allBut_bk D, hs.imp (fun z => sub.seq z) (fun z => sameT sub z), by rw [hx.len]; exact h1, by rw [hx.len]; exact h2, h3, fun v H' hv B => ?_⟩
  obtain ⟨e, he, hd⟩ := da_mem hx hv
  obtain ⟨x1, x2⟩ := sat_deck S1 ⟨d, c, rfl, fun _ => Iff.rfl, z1, z2, D⟩ dis' z1 z2 B
  exact fin _ _ (hq e he) _ (fun _ => False) H0 H' x1 ⟨hd, fun _ h => h⟩ (fun _ h => h.elim) x2
theorem sat_one {Q : Pd} {vs : List V} {H0 H : Hp} {G : FP} (S : Sat [some (pu Q)] (vs.map some) H0 H G) : ∃ v, vs = [v] ∧ Q.p H0 v := by
  have hl := S.len
  obtain ⟨v, f, e1, r, d⟩ := S.get (i := 0) (R := pu Q) rfl
  match vs, hl with
  | [v'], _ =>
    obtain rfl : v' = v := Option.some.inj (Option.some.inj e1)
    exact ⟨v', rfl, r.1⟩
theorem sat_nil {H0 H : Hp} {G : FP} (s : Same H0 H) (h : ∀ a, G a → H a ≠ none ∧ H0 a = none) : Sat [] [] H0 H G := ⟨s, rfl, h, fun _ _ => False, fun i R hR => by simp at hR, fun _ _ _ h => h.elim, fun _ _ h => h.elim, fun _ _ h => h.elim⟩
theorem deck_conv (vs : List V) (H : Hp) (Q : VK) (E : XK) (h : spOf 0 (deckM K) vs H Q E) : spDeck K vs H Q E := by
  obtain ⟨Rs, H0, G, q, S, ⟨ns, rfl, hq⟩, fin⟩ := h
  obtain ⟨v, rfl, a, rfl, hs⟩ := sat_one S
  refine ⟨a, ns, rfl, S.same.seq hs, fun d c H' B => ?_⟩
  obtain ⟨⟨ms, m, t, a1, a2, _⟩⟩ := id B.dk
  have nd : ¬ G d := fun e => (S.fr d e).1 B.hd
  have nc : ¬ G c := fun e => (S.fr c e).1 B.hc
  have hG : ∀ a, G a → H' a = H a := fun a ha => by
    cases e : H a with
    | none => exact absurd e (S.fr a ha).1
    | some u => exact B.same a u e
  have R0 : (deck 0).holds H0 H' (.ref d) fun a => a = d ∨ a = c := ⟨d, c, rfl, fun _ => Iff.rfl, S.same.free B.hd, S.same.free B.hc, B.dk⟩
  refine fin _ _ hq _ (fun a => a = d ∨ a = c) H0 H' ⟨Same.refl _, hG⟩ R0 (fun a ha => ha.elim (fun e => e ▸ nd) fun e => e ▸ nc) (sat_nil (S.same.trans B.same) fun a ha => ?_)
  rcases ha with ha | ha
  · rw [hG a ha]
    exact S.fr a ha
  · exact Res.live _ R0 ha
/-- the law's own promise -/
def spLaw0 (K : PySem.W.Frag) : Sp := fun vs H Q _ => ∃ (a : Addr) (ns : List Int), vs = [.ref a] ∧ SqL K H a (ns.map V.int) ∧ ns.length ≤ 63 ∧ ∀ H', Q (.bl true) H'
theorem law_conv (vs : List V) (H : Hp) (Q : VK) (E : XK) (h : spLaw0 K vs H Q E) : spOf 0 (lawM K) vs H Q E := by
  obtain ⟨a, ns, rfl, hs, hl, hq⟩ := h
  refine ⟨[pu (scriptP K ns)], H, fun _ => False, fun R Rs' => R = dat K (.bool true) ∧ Rs' = [], ⟨Same.refl _, rfl, fun _ h => h.elim, fun _ _ => False, fun i R hR => ?_, fun _ _ _ h => h.elim, fun _ _ h => h.elim, fun _ _ h => h.elim⟩, ⟨ns, rfl, hl, rfl, rfl⟩, fun R Rs' ⟨e1, e2⟩ v f H0' H' _ hr _ _ => ?_⟩
  · cases i with
    | zero =>
      obtain rfl : pu (scriptP K ns) = R := Option.some.inj (Option.some.inj hR)
      exact ⟨.ref a, rfl, ⟨a, rfl, hs⟩, fun _ h => h⟩
    | succ i => simp at hR
  · subst e1
    have hv := hr.1
    cases hv
    exact hq H'
end
end ML

namespace ML
open PySem PySem.Spec PyProof.Rows L2 KS GL LB
section
variable {K : PySem.W.Frag} {ρ : MS} {Q : Rt → MS → Prop} {Qb : Bool → MS → Prop} {ta tb te tc td ty tv : TE} {t u : TT} {np : Nat} {ts us : TS} {n b c : MS → Prop} {r : Rt → MS → Prop}
/-! ### statements, their ends apart -/
theorem x_seq (h : ex np ts ρ ⟨fun ρ1 => ex np us ρ1 ⟨n, r, b, c⟩, r, b, c⟩) : ex np (tSeq ts us) ρ ⟨n, r, b, c⟩ := ex_seq h
theorem x_next (q : n ρ) : ex np tNext ρ ⟨n, r, b, c⟩ := ex_next q
theorem x_break (q : b ρ) : ex np tBreak ρ ⟨n, r, b, c⟩ := ex_break q
theorem x_cont (q : c ρ) : ex np tCont ρ ⟨n, r, b, c⟩ := ex_cont q
theorem x_drop (h : ev te ρ fun _ ρ1 => n ρ1) : ex np (tDrop te) ρ ⟨n, r, b, c⟩ := ex_drop h
theorem x_ret (h : ev te ρ r) : ex np (tRet te) ρ ⟨n, r, b, c⟩ := ex_ret h
theorem x_retN (h : r (.val (dat K .none)) ρ) : ex np tRetN ρ ⟨n, r, b, c⟩ := ex_retN h
theorem x_asg {i : Nat} (h : ev te ρ fun r ρ1 => tg [i] (gName i) r ρ1 n) (hl : np ≤ i) : ex np (tAsg te (gName i)) ρ ⟨n, r, b, c⟩ := ex_asg h fun j hj => by rw [List.mem_singleton.mp hj]; exact hl
theorem x_asgT {l : List Nat} {m : Nat} {g : TGs} (h : ev te ρ fun r ρ1 => tg l (gTup K m g) r ρ1 n) (hl : ∀ i ∈ l, np ≤ i) : ex np (tAsg te (gTup K m g)) ρ ⟨n, r, b, c⟩ := ex_asg h hl
theorem x_asgS {te' to ti : TE} {t : TSet} (h : ev te ρ fun r ρ1 => tg [] (gSub to ti t) r ρ1 n) : ex np (tAsg te (gSub to ti t)) ρ ⟨n, r, b, c⟩ := ex_asg h fun i hi => by cases hi
theorem x_if (h : evT t ρ fun b' ρ1 => (b' = true → ex np ts ρ1 ⟨n, r, b, c⟩) ∧ (b' = false → ex np us ρ1 ⟨n, r, b, c⟩)) : ex np (tIfS t ts us) ρ ⟨n, r, b, c⟩ := ex_if h
theorem x_par {i j : Nat} {ta : TA} (hij : i ≠ j) (hi : np ≤ i) (hj : np ≤ j) (h : evA ta ρ fun rs ρ1 => ∃ r1 r2, rs = [r1, r2] ∧ ∃ R1 R2, r1 = .val R1 ∧ r2 = .val R2 ∧ n ((ρ1.set i (some R1)).set j (some R2))) : ex np (tPar i j ta) ρ ⟨n, r, b, c⟩ := ex_par hij hi hj h
theorem x_for {wi : TI} {g : TG} (h : wk K wi ρ fun m item ρ1 => ∃ I : Nat → MS → Prop, I 0 ρ1 ∧ (∀ i ρ', i < m → I i ρ' → ∃ l, (∀ j ∈ l, np ≤ j) ∧ tg l g (.val (dat K (item i))) ρ' fun ρ2 => ex np ts ρ2 ⟨I (i + 1), r, n, I (i + 1)⟩) ∧ ∀ ρ', I m ρ' → n ρ') : ex np (tFor wi g ts) ρ ⟨n, r, b, c⟩ := ex_for (K := K) h
theorem x_while (I : Nat → MS → Prop) (h0 : ∃ m, I m ρ) (h : ∀ m ρ', I m ρ' → evT t ρ' fun b' ρ1 => (b' = true → ex np ts ρ1 ⟨fun ρ2 => ∃ m', m' < m ∧ I m' ρ2, r, n, fun ρ2 => ∃ m', m' < m ∧ I m' ρ2⟩) ∧ (b' = false → n ρ1)) : ex np (tWhile t ts) ρ ⟨n, r, b, c⟩ := ex_while I h0 h
theorem x_frz {i : Nat} {ds : List PyData} (h : ρ[i]? = some (some (lo K ds))) (q : ex np ts (ρ.set i (some (dat K (.list ds)))) ⟨n, r, b, c⟩) : ex np ts ρ ⟨n, r, b, c⟩ := ex_frz h q
theorem x_augI {i : Nat} {g : Int → Int → Int} {x : Int} (hi : np ≤ i) (h0 : ρ[i]? = some (some (dat K (.int x)))) (h : ev te ρ fun r ρ1 => ∃ m, r = .val (dat K (.int m)) ∧ n (ρ1.set i (some (dat K (.int (g x m)))))) : ex np (tAug i te (ipI g)) ρ ⟨n, r, b, c⟩ := ex_aug hi h0 h
theorem x_dput {i : Nat} (h : ev tv ρ fun r ρ1 => ∃ d ρ2, asD K ρ1 r d ρ2 ∧ (∃ R, ρ2[i]? = some (some R)) ∧ ev ty ρ2 fun r2 ρ3 => ∃ m x, r2 = .val (dat K (keyD x)) ∧ ρ3[i]? = some (some (dk K m)) ∧ m.length < sizeLine ∧ n (ρ3.set i (some (dk K (mput m x d))))) : ex np (sDPut (tVar i) ty tv) ρ ⟨n, r, b, c⟩ := ex_dput h
/-- the ends of a def's body, apart -/
theorem outF_eq {k : Res → List Res → Prop} : outF np K k = ⟨fun ρ' => ∃ Rs', retR np (.val (dat K .none)) ρ' (dat K .none) Rs' ∧ k (dat K .none) Rs', fun r ρ' => ∃ R Rs', retR np r ρ' R Rs' ∧ k R Rs', fun _ => False, fun _ => False⟩ := rfl
/-! ### arguments of calls -/
inductive asX (K : PySem.W.Frag) (ρ : MS) : Rt → Rt → MS → Prop
  | pure {P : Pd} : asX K ρ (.val (pu P)) (.val (pu P)) ρ
  | own {ds : List PyData} : asX K ρ (.val (lo K ds)) (.val (dat K (.list ds))) ρ
  | slot {i : Nat} {ds : List PyData} : ρ[i]? = some (some (lo K ds)) → asX K ρ (.at i) (.val (dat K (.list ds))) (ρ.set i (some (dat K (.list ds))))
  | keep {i : Nat} : asX K ρ (.at i) (.at i) ρ
theorem asX.go {r r' : Rt} {ρ' : MS} {σ : L2.St} {H0 H : Hp} {G : FP} {v : V} {f : FP} (h : asX K ρ r r' ρ') (S : Sat ρ σ H0 H fun a => G a ∨ f a) (hr : RtH r σ H0 H v f) (hd : ∀ a, f a → ¬ G a) : ∃ H0', Same H0 H0' ∧ RtH r' σ H0' H v (fun _ => False) ∧ Sat ρ' σ H0' H G := by
  cases h with
  | pure => exact ⟨H0, Same.refl _, ⟨hr.1, fun _ h => h⟩, S.frame fun _ => .inl⟩
  | keep => exact ⟨H0, Same.refl _, ⟨hr.1, fun _ h => h⟩, S.frame fun _ => .inl⟩
  | own =>
    obtain ⟨H0', s, h, S'⟩ := (asD.own (K := K) (ρ := ρ)).go S hr hd
    exact ⟨H0', s, ⟨h, fun _ h => h⟩, S'⟩
  | slot e =>
    obtain ⟨H0', s, h, S'⟩ := (asD.slot e).go S hr hd
    exact ⟨H0', s, ⟨h, fun _ h => h⟩, S'⟩
theorem evA_x {tr : TA} {Q : List Rt → MS → Prop} (h : ev ta ρ fun r ρ1 => ∃ r' ρ2, asX K ρ1 r r' ρ2 ∧ evA tr ρ2 fun rs ρ3 => Q (r' :: rs) ρ3) : evA (tCons ta tr) ρ Q := by
  intro σ H0 H G k S hk
  refine h σ H0 H G _ S fun r1 ρ1 v1 f1 H1 H1' ⟨r', ρ2, ha, h1⟩ p1 => ?_
  obtain ⟨H2, s2, hr2, S2⟩ := ha.go p1.sat p1.rt p1.dis
  refine h1 σ H2 H1' G _ S2 fun rs ρ3 vs f2 H3 H3' h3 p3 => ?_
  refine hk (r' :: rs) ρ3 (v1 :: vs) f2 H3 H3' h3 ⟨⟨(p1.ext.s0.trans s2).trans p3.ext.s0, fun a ha => (p3.ext.fr a ha).trans (p1.ext.fr a ha)⟩, ⟨v1, vs, fun _ => False, f2, rfl, hr2.loc p3.ext.s0 fun _ h => h.elim, p3.rt, fun a => ⟨.inr, fun h => h.resolve_left id⟩, fun _ h => h.elim⟩, p3.dis, p3.sat⟩
theorem len_le {ds : List PyData} (h : Nat.ble ds.length 100 = true) : ds.length ≤ sizeLine := Nat.le_trans (Nat.le_of_ble_eq_true h) (by decide)
theorem lt_line {n : Nat} (h : n ≤ 100000) : n < sizeLine := Nat.lt_of_le_of_lt h (by decide)
theorem le_line {n : Nat} (h : n ≤ 100000) : n ≤ sizeLine := Nat.le_of_lt (lt_line h)
end
end ML

/-! Rows (source, label, target) on the heap; as keys, as data; lists of them in the making. -/
namespace K24
open PySem PySem.Spec L2 KS GL LB
open PyProof.Rows hiding cnt
/-- a row: source, label, target -/
abbrev Row := Int × Str × Int
def rowV (r : Row) : List V := [.int r.1, .str r.2.1, .int r.2.2]
def RowsAt (K : PySem.W.Frag) (H : Hp) (rs : List (Addr × Row)) : Prop := ∀ p ∈ rs, SqT K H p.1 (rowV p.2)
theorem sameT {K : PySem.W.Frag} {H H' : Hp} {a : Addr} {xs : List V} (e : Same H H') (h : SqT K H a xs) : SqT K H' a xs := by
  rcases h with (h | ⟨o, h⟩) | h
  · exact .inl (.inl (e _ _ h))
  · exact .inl (.inr ⟨o, e _ _ h⟩)
  · exact .inr h
theorem RowsAt.mono {K : PySem.W.Frag} {H H' : Hp} {rs : List (Addr × Row)} (h : RowsAt K H rs) (e : Same H H') : RowsAt K H' rs := fun p hp => sameT e (h p hp)
/-- numbers and labels of bounded size -/
def Small (x : Int) : Prop := -(2 ^ 80) ≤ x ∧ x ≤ 2 ^ 80
/-- of bounded size, and -1 or one of M -/
def InM (M : List Int) (x : Int) : Prop := Small x ∧ (x = -1 ∨ x ∈ M)
def Lbl (r : Row) : Prop := r.2.1.length ≤ 8 ∧ PyData.strOk r.2.1 = true
def Good (M : List Int) (r : Row) : Prop := InM M r.1 ∧ Lbl r ∧ InM M r.2.2
theorem ints_at {xs : List Int} {j : Nat} (h : j < xs.length) : (xs.map V.int)[j]? = some (.int xs[j]) := by
  rw [List.getElem?_map, List.getElem?_eq_getElem h]
  rfl
def rowRefs (rs : List (Addr × Row)) : List V := rs.map fun q => V.ref q.1
def rowK (r : Row) : List Key := [.inl r.1, .inr r.2.1, .inl r.2.2]
theorem rowK_V (r : Row) : (rowK r).map kV = rowV r := rfl
theorem rowK_inj {r q : Row} (h : rowK r = rowK q) : r = q := by
  obtain ⟨a, b, c⟩ := r
  obtain ⟨a', b', c'⟩ := q
  unfold rowK at h
  injection h with h1 h
  injection h with h2 h
  injection h with h3 _
  injection h1 with h1
  injection h2 with h2
  injection h3 with h3
  simp only at h1 h2 h3
  rw [h1, h2, h3]
def rowD (r : Row) : PyData := .tuple [.int r.1, .str r.2.1, .int r.2.2]
theorem enc_row (r : Row) : encK (rowK r) = rowD r := rfl
theorem alike_rows (r q : Row) : W.alike (encK (rowK r)) (encK (rowK q)) = true := by
  rw [enc_row, enc_row]
  unfold rowD
  simp [W.alike, W.alikeAll]
def keyed (rs : List (Addr × Row)) : List (Addr × List Key) := rs.map fun q => (q.1, rowK q.2)
theorem keyed_refs (rs : List (Addr × Row)) : ((keyed rs).map fun p => V.ref p.1) = rowRefs rs := by
  unfold keyed rowRefs
  rw [List.map_map]
  rfl
/-- members of a list of keyed rows come from rows -/
theorem unkey {rs : List (Addr × Row)} : ∀ {L : List (Addr × List Key)}, (∀ p ∈ L, p ∈ keyed rs) → ∃ rs1 : List (Addr × Row), L = keyed rs1 ∧ ∀ q ∈ rs1, q ∈ rs
  | [], _ => ⟨[], rfl, fun _ h => (nomatch h)⟩
  | p :: L, h => by
    obtain ⟨rs1, e, hs⟩ := unkey (L := L) fun q hq => h q (List.mem_cons_of_mem _ hq)
    obtain ⟨q, hq, eq⟩ := List.mem_map.mp (h p List.mem_cons_self)
    refine ⟨q :: rs1, ?_, fun z hz => ?_⟩
    · unfold keyed at e ⊢
      rw [List.map_cons, ← eq, e]
    · rcases List.mem_cons.mp hz with rfl | hz
      · exact hq
      · exact hs z hz
theorem key_mem {rs : List (Addr × Row)} {r : Row} : rowK r ∈ (keyed rs).map (·.2) ↔ r ∈ rs.map (·.2) := by
  unfold keyed
  rw [List.map_map]
  constructor
  · intro h
    obtain ⟨q, hq, e⟩ := List.mem_map.mp h
    exact List.mem_map.mpr ⟨q, hq, rowK_inj e⟩
  · intro h
    obtain ⟨q, hq, e⟩ := List.mem_map.mp h
    exact List.mem_map.mpr ⟨q, hq, by rw [← e]; rfl⟩
theorem dp_row {K : PySem.W.Frag} {H : Hp} {a : Addr} {r : Row} (h : SqT K H a (rowV r)) : Dp K H (.ref a) (rowD r) := .tup h (.cons (.int _) (.cons (.str _) (.cons (.int _) .nil)))
theorem dp_rows {K : PySem.W.Frag} {H : Hp} : ∀ {rs : List (Addr × Row)}, RowsAt K H rs → DpAll K H (rowRefs rs) (rs.map fun q => rowD q.2)
  | [], _ => .nil
  | p :: rs, h => .cons (dp_row (h p List.mem_cons_self)) (dp_rows fun q hq => h q (List.mem_cons_of_mem _ hq))
theorem lay_rows : ∀ rs : List (Addr × Row), (∀ q ∈ rs, Lbl q.2) → PyData.canLayAll0 (rs.map fun q => rowD q.2) = true
  | [], _ => by simp [PyData.canLayAll0]
  | p :: rs, h => by
    rw [List.map_cons, PyData.canLayAll0, lay_rows rs fun q hq => h q (List.mem_cons_of_mem _ hq)]
    have z := (h p List.mem_cons_self).2
    simp [rowD, PyData.canLay0, PyData.canLayAll0, z]
theorem depth_row (r : Row) : (rowD r).depth = 1 := by
  unfold rowD
  simp [PyData.depth, PyData.depthAll]
theorem depth_rows : ∀ rs : List (Addr × Row), PyData.depthAll (rs.map fun q => rowD q.2) ≤ 1
  | [] => by simp [PyData.depthAll]
  | p :: rs => by
    have := depth_rows rs
    rw [List.map_cons, PyData.depthAll, depth_row]
    omega
theorem shaped_rows (rs : List (Addr × Row)) (hg : ∀ q ∈ rs, Lbl q.2) : SeqAt.shaped (PyData.list (rs.map fun q => rowD q.2)) = true := by
  unfold SeqAt.shaped
  have := depth_rows rs
  rw [PyData.canLay0, lay_rows rs hg, PyData.depth, Bool.true_and, decide_eq_true_eq]
  omega
theorem eqv_list_nil (l : List PyData) : PyData.eqv (PyData.list l) (PyData.list []) = l.isEmpty := by
  cases l with
  | nil => simp [PyData.eqv, PyData.eqvAll]
  | cons x l => simp [PyData.eqv, PyData.eqvAll]
theorem erase_map {α β : Type} (f : α → β) : ∀ (l : List α) (j : Nat), (l.map f).eraseIdx j = (l.eraseIdx j).map f
  | [], _ => rfl
  | _ :: _, 0 => rfl
  | x :: l, j + 1 => by
    show f x :: (l.map f).eraseIdx j = f x :: (l.eraseIdx j).map f
    rw [erase_map f l j]
theorem mem_take_out {α : Type} {x : α} : ∀ {l : List α} {j : Nat} (hj : j < l.length), x ∈ l ↔ x = l[j] ∨ x ∈ l.eraseIdx j
  | y :: l, 0, _ => List.mem_cons
  | y :: l, j + 1, hj => by
    show x ∈ y :: l ↔ x = l[j]'(Nat.lt_of_succ_lt_succ hj) ∨ x ∈ y :: l.eraseIdx j
    rw [List.mem_cons, List.mem_cons, mem_take_out (Nat.lt_of_succ_lt_succ hj)]
    constructor
    · rintro (h | h | h)
      · exact .inr (.inl h)
      · exact .inl h
      · exact .inr (.inr h)
    · rintro (h | h | h)
      · exact .inr (.inl h)
      · exact .inl h
      · exact .inr (.inr h)
theorem shaped_nil : SeqAt.shaped (PyData.list []) = true := shaped_ints []
/-- a list of rows that is being made -/
structure LM (K : PySem.W.Frag) (M : List Int) (H1 H : Hp) (d c p : Addr) (rs : List (Addr × Row)) (m : Nat) : Prop where
  n1 : H1 p = none
  pd : p ≠ d
  pc : p ≠ c
  at_ : H p = some (.lst (rowRefs rs))
  rows : RowsAt K H1 rs
  good : ∀ q ∈ rs, Good M q.2
  bk : Bk H1 H d c m
theorem rowRefs_len (rs : List (Addr × Row)) : (rowRefs rs).length = rs.length := by
  unfold rowRefs
  rw [List.length_map]
theorem rowRefs_add (rs rs2 : List (Addr × Row)) : rowRefs (rs ++ rs2) = rowRefs rs ++ rowRefs rs2 := by
  unfold rowRefs
  rw [List.map_append]
section
variable {K : PySem.W.Frag} {M : List Int} {H1 H : Hp} {d c p : Addr} {rs : List (Addr × Row)} {m : Nat}
theorem LM.mono {m' : Nat} (L : LM K M H1 H d c p rs m) (h : m ≤ m') : LM K M H1 H d c p rs m' := ⟨L.n1, L.pd, L.pc, L.at_, L.rows, L.good, L.bk.mono h⟩
theorem LM.row {r : Addr} {x : Row} (L : LM K M H1 H d c p rs m) (hr : H r = none) (hg : Good M x) :
    Same H1 (upd H1 r (.tup (rowV x))) ∧ (upd H r (.tup (rowV x))) p = some (.lst (rowRefs rs)) ∧ LM K M (upd H1 r (.tup (rowV x))) (upd (upd H r (.tup (rowV x))) p (.lst (rowRefs rs ++ [.ref r]))) d c p (rs ++ [(r, x)]) m := by
  obtain ⟨r1, r2, r3⟩ := L.bk.newL hr
  have rp : p ≠ r := ne_of_none L.at_ hr
  have S := same_upd (o := .tup (rowV x)) r3
  have n6 : (upd H1 r (.tup (rowV x))) p = none := by rw [upd_ne rp]; exact L.n1
  have B := ((L.bk.junk (o := .tup (rowV x)) r3 r1 r2).keep upd_same r1 r2).junk (p := p) (o := .lst (rowRefs rs ++ [.ref r])) n6 L.pd L.pc
  refine ⟨S, by rw [upd_ne rp]; exact L.at_, n6, L.pd, L.pc, ?_, fun z hz => ?_, fun z hz => ?_, B⟩
  · rw [upd_same, rowRefs_add]
    rfl
  · rcases List.mem_append.mp hz with h | h
    · exact sameT S (L.rows z h)
    · rw [List.mem_singleton.mp h]
      exact .inl (.inl upd_same)
  · rcases List.mem_append.mp hz with h | h
    · exact L.good z h
    · rw [List.mem_singleton.mp h]
      exact hg
/-- an int of a list, by any index that lies in it -/
theorem atI_ints {xs : List Int} {i : Int} (h1 : -(xs.length : Int) ≤ i) (h2 : i < xs.length) : ∃ x, x ∈ xs ∧ atI (xs.map V.int) i = some (.int x) := by
  have : ∃ j : Nat, j < xs.length ∧ ixN (xs.map V.int).length i = some j := by
    unfold ixN
    rw [List.length_map]
    by_cases h : 0 ≤ i
    · exact ⟨i.toNat, by omega, by rw [if_pos h, if_pos h2]⟩
    · exact ⟨(i + xs.length).toNat, by omega, by rw [if_neg h, if_pos h1]⟩
  obtain ⟨j, hj, e⟩ := this
  refine ⟨xs[j], List.getElem_mem hj, ?_⟩
  unfold atI
  rw [e]
  exact ints_at hj
end
def edges : List Row → List (Int × Int)
  | [] => []
  | r :: l => if r.2.2 = -1 then edges l else (r.1, r.2.2) :: edges l
theorem edges_snoc (r : Row) : ∀ l : List Row, edges (l ++ [r]) = edges l ++ (if r.2.2 = -1 then [] else [(r.1, r.2.2)])
  | [] => by
    show edges [r] = _
    unfold edges
    split <;> simp [edges]
  | q :: l => by
    show edges (q :: (l ++ [r])) = edges (q :: l) ++ _
    rw [edges, edges, edges_snoc r l]
    split <;> simp
theorem edges_len : ∀ l : List Row, (edges l).length ≤ l.length
  | [] => Nat.le_refl _
  | r :: l => by
    have := edges_len l
    unfold edges
    split <;> simp <;> omega
theorem int_shown {x : Int} (h : Small x) : (PyData.shown (.int x)).length ≤ 30 := by
  have h1 : x.natAbs < 10 ^ 25 := by
    obtain ⟨a, b⟩ := h
    have : x.natAbs ≤ 2 ^ 80 := by omega
    exact Nat.lt_of_le_of_lt this (by decide)
  have e := int_text_length_le10 (k := 25) (by decide) h1
  show (Str.ofString (toString x)).length ≤ 30
  rw [PySem.ofString_length]
  omega
theorem int_log {x : Int} (h : Small x) : x.natAbs.log2 ≤ 80 := by
  obtain ⟨a, b⟩ := h
  have h1 : x.natAbs < 2 ^ 81 := by omega
  by_cases h0 : x.natAbs = 0
  · rw [h0]
    decide
  · exact Nat.le_of_lt_succ ((Nat.log2_lt h0).mpr h1)
theorem int_weight {x : Int} (h : Small x) : PyData.weight (.int x) ≤ 81 := by
  have := int_log h
  unfold PyData.weight
  split <;> omega
theorem lay_row {r : Row} (h : Lbl r) : (rowD r).canLay0 = true := by
  have z := h.2
  simp [rowD, PyData.canLay0, PyData.canLayAll0, z]
theorem row_short {M : List Int} {r : Row} (h : Good M r) : (rowD r).leavesShort 30 = true := by
  refine PyData.leavesShort_of_canLay0 30 _ (lay_row h.2.1) ?_
  have h1 := int_shown h.1.1
  have h2 := int_shown h.2.2.1
  simp [rowD, PyData.intsShort, PyData.intsShortAll, h1, h2]
theorem row_show {M : List Int} {r : Row} (h : Good M r) : (rowD r).showable = true := by
  have h1 := int_log h.1.1
  have h2 := int_log h.2.2.1
  simp [rowD, PyData.showable, PyData.showableAll]
  omega
theorem row_weight {M : List Int} {r : Row} (h : Good M r) : (rowD r).weight ≤ 173 := by
  have h1 := int_weight h.1.1
  have h2 := int_weight h.2.2.1
  have h3 : PyData.weight (.str r.2.1) ≤ 8 := h.2.1.1
  unfold rowD
  rw [PyData.weight, PyData.weightAll, PyData.weightAll, PyData.weightAll, PyData.weightAll]
  omega
def rowsD (rs : List (Addr × Row)) : PyData := .tuple (rs.map fun q => rowD q.2)
theorem rows_short {M : List Int} : ∀ rs : List (Addr × Row), (∀ q ∈ rs, Good M q.2) → PyData.leavesShortAll 30 (rs.map fun q => rowD q.2) = true
  | [], _ => rfl
  | q :: rs, h => by
    rw [List.map_cons, PyData.leavesShortAll, row_short (h q List.mem_cons_self), rows_short rs fun x hx => h x (List.mem_cons_of_mem _ hx)]
    rfl
theorem rows_show {M : List Int} : ∀ rs : List (Addr × Row), (∀ q ∈ rs, Good M q.2) → PyData.showableAll (rs.map fun q => rowD q.2) = true
  | [], _ => rfl
  | q :: rs, h => by
    rw [List.map_cons, PyData.showableAll, row_show (h q List.mem_cons_self), rows_show rs fun x hx => h x (List.mem_cons_of_mem _ hx)]
    rfl
theorem rows_weight {M : List Int} : ∀ rs : List (Addr × Row), (∀ q ∈ rs, Good M q.2) → PyData.weightAll (rs.map fun q => rowD q.2) ≤ 174 * rs.length
  | [], _ => Nat.le_refl _
  | q :: rs, h => by
    have h1 := row_weight (h q List.mem_cons_self)
    have h2 := rows_weight rs fun x hx => h x (List.mem_cons_of_mem _ hx)
    rw [List.map_cons, PyData.weightAll, List.length_cons]
    omega
theorem rows_len {M : List Int} {rs : List (Addr × Row)} (h : ∀ q ∈ rs, Good M q.2) (hl : rs.length ≤ 76) : (rowsD rs).shown.length ≤ sizeLine := by
  have h1 := PyData.shown_le 30 (by decide) (rowsD rs) (rows_short rs h)
  have h2 : (rowsD rs).weight ≤ 174 * rs.length := rows_weight rs h
  rw [sizeLine_eq]
  omega
theorem rows_depth (rs : List (Addr × Row)) : (rowsD rs).depth ≤ 60 := by
  have := depth_rows rs
  unfold rowsD
  rw [PyData.depth]
  omega
/-- the truths -/
def blsD (bs : List Bool) : PyData := .list (bs.map .bool)
theorem bls_dp {K : PySem.W.Frag} {H : Hp} : ∀ bs : List Bool, DpAll K H (bs.map V.bl) (bs.map .bool)
  | [] => .nil
  | b :: bs => .cons (.bl b) (bls_dp bs)
theorem bls_show : ∀ bs : List Bool, PyData.showableAll (bs.map .bool) = true
  | [] => rfl
  | b :: bs => by
    rw [List.map_cons, PyData.showableAll, bls_show bs]
    rfl
theorem bls3 (a b c : Bool) : (blsD [a, b, c]).shown.length ≤ sizeLine ∧ (blsD [a, b, c]).depth ≤ 60 := by
  refine ⟨Nat.le_trans (?_ : _ ≤ 30) (by rw [sizeLine_eq]; decide), ?_⟩
  · cases a <;> cases b <;> cases c <;> decide +kernel
  · cases a <;> cases b <;> cases c <;> decide +kernel
theorem bls_last : (blsD [false, false, true]).shown = ("[False, False, True]" : Str) := by decide +kernel
theorem _root_.LB.Bk.on {H0 H H' : Hp} {d c : Addr} {n : Nat} (B : Bk H0 H d c n) (S : Same H H') : Bk H0 H' d c n := by
  obtain ⟨⟨ns, m, t, a1, a2, a3⟩⟩ := B.dk
  exact ⟨B.same.trans S, B.hd, B.hc, ⟨ns, m, t, S _ _ a1, S _ _ a2, a3⟩⟩
theorem edges_in {l l' : List Row} (h : ∀ r, r ∈ l' ↔ r ∈ l) : ∀ e, e ∈ edges l' ↔ e ∈ edges l := by
  have mem : ∀ (l : List Row) e, e ∈ edges l ↔ ∃ r ∈ l, r.2.2 ≠ -1 ∧ e = (r.1, r.2.2) := by
    intro l e
    induction l with
    | nil => exact ⟨fun h => (nomatch h), fun ⟨_, h, _⟩ => (nomatch h)⟩
    | cons r l ih =>
      unfold edges
      by_cases h1 : r.2.2 = -1
      · rw [if_pos h1, ih]
        constructor
        · rintro ⟨x, hx, h2⟩
          exact ⟨x, List.mem_cons_of_mem _ hx, h2⟩
        · rintro ⟨x, hx, h2, h3⟩
          rcases List.mem_cons.mp hx with rfl | hx
          · exact absurd h1 h2
          · exact ⟨x, hx, h2, h3⟩
      · rw [if_neg h1, List.mem_cons, ih]
        constructor
        · rintro (rfl | ⟨x, hx, h2⟩)
          · exact ⟨r, List.mem_cons_self, h1, rfl⟩
          · exact ⟨x, List.mem_cons_of_mem _ hx, h2⟩
        · rintro ⟨x, hx, h2, h3⟩
          rcases List.mem_cons.mp hx with rfl | hx
          · exact .inl h3
          · exact .inr ⟨x, hx, h2, h3⟩
  intro e
  rw [mem, mem]
  constructor
  · rintro ⟨r, hr, h2⟩
    exact ⟨r, (h r).mp hr, h2⟩
  · rintro ⟨r, hr, h2⟩
    exact ⟨r, (h r).mpr hr, h2⟩
end K24

/-! Rows as data. -/
namespace ML
open PySem L2 KS GL LB
open K24 (Row rowD rowV rowRefs RowsAt)
open PySem.Spec hiding Row
open PyProof.Rows hiding cnt
theorem perm_map_inv {α β : Type} {f : α → β} {l m : List β} (h : l.Perm m) : ∀ {xs : List α}, m = xs.map f → ∃ ys : List α, l = ys.map f ∧ ys.Perm xs := by
  induction h with
  | nil => exact fun {xs} e => ⟨[], rfl, by cases xs <;> first | exact .nil | cases e⟩
  | cons x _ ih =>
    intro xs e
    cases xs with
    | nil => cases e
    | cons y xs =>
      rw [List.map_cons] at e
      injection e with e1 e2
      obtain ⟨ys, h1, h2⟩ := ih e2
      exact ⟨y :: ys, by rw [List.map_cons, e1, h1], h2.cons y⟩
  | swap x y l =>
    intro xs e
    match xs, e with
    | a :: b :: xs, e =>
      rw [List.map_cons, List.map_cons] at e
      injection e with e1 e2
      injection e2 with e2 e3
      exact ⟨b :: a :: xs, by rw [List.map_cons, List.map_cons, e1, e2, e3], .swap a b xs⟩
  | trans _ _ ih1 ih2 =>
    intro xs e
    obtain ⟨ys, h1, h2⟩ := ih2 e
    obtain ⟨zs, h3, h4⟩ := ih1 h1
    exact ⟨zs, h3, h4.trans h2⟩
theorem rows_alike (R : List Row) : W.AllAlike (R.map rowD) := by
  intro d hd e he
  obtain ⟨r, _, rfl⟩ := List.mem_map.mp hd
  obtain ⟨q, _, rfl⟩ := List.mem_map.mp he
  unfold rowD
  simp [W.alike, W.alikeAll]
theorem rows_sortable (R : List Row) : W.Sortable (R.map rowD) := .inl fun d hd => by
  obtain ⟨r, _, rfl⟩ := List.mem_map.mp hd
  exact ⟨_, _, rfl⟩
theorem rows_dep (R : List Row) : ∀ d ∈ R.map rowD, d.depth ≤ 60 := fun d hd => by
  obtain ⟨r, _, rfl⟩ := List.mem_map.mp hd
  rw [K24.depth_row]
  decide
/-- rows' places -/
theorem unrow {K : PySem.W.Frag} {H : Hp} : ∀ {R : List Row} {vs : List V}, DaAll K H vs (R.map rowD) → ∃ rs : List (Addr × Row), vs = rowRefs rs ∧ rs.map (·.2) = R ∧ RowsAt K H rs
  | [], _, h => by cases h; exact ⟨[], rfl, rfl, fun _ h => by cases h⟩
  | r :: R, _, h => by
    rw [List.map_cons] at h
    cases h with
    | cons h1 h2 =>
      obtain ⟨rs, e1, e2, e3⟩ := unrow h2
      unfold rowD at h1
      cases h1 with
      | tup a1 a2 =>
        rename_i a xs
        obtain ⟨⟩ | ⟨b1, ⟨⟩ | ⟨b2, ⟨⟩ | ⟨b3, ⟨⟩⟩⟩⟩ := a2
        cases b1
        cases b2
        cases b3
        refine ⟨(a, r) :: rs, by rw [e1]; rfl, by rw [List.map_cons, e2], fun z hz => ?_⟩
        rcases List.mem_cons.mp hz with rfl | hz
        · exact a1
        · exact e3 z hz
end ML

namespace ML
open PySem PySem.Spec PyProof.Rows L2 KS GL LB
section
variable {K : PySem.W.Frag} {ρ : MS} {Q : Rt → MS → Prop} {Qb : Bool → MS → Prop} {ta tb te tc td ty tv : TE} {t u : TT} {np : Nat} {ts us : TS} {n b c : MS → Prop} {r : Rt → MS → Prop}
/-- what is walked, as a list of data -/
def wkD (K : PySem.W.Frag) (wi : TI) (ρ : MS) (C : List PyData → MS → Prop) : Prop := wk K wi ρ fun m item ρ1 => ∃ ds : List PyData, m = ds.length ∧ (∀ i, i < m → item i = ds.getD i .none) ∧ C ds ρ1
theorem wkD_list {C : List PyData → MS → Prop} (h : ev te ρ fun r ρ1 => ∃ ds ρ2, asD K ρ1 r (.list ds) ρ2 ∧ C ds ρ2) : wkD K (iList K te) ρ C := wk_list (ev_mono h fun r ρ1 ⟨ds, ρ2, a, q⟩ => ⟨ds, ρ2, a, ds, rfl, fun _ _ => rfl, q⟩)
theorem wkD_tup {C : List PyData → MS → Prop} (h : ev te ρ fun r ρ1 => ∃ ds ρ2, asD K ρ1 r (.tuple ds) ρ2 ∧ C ds ρ2) : wkD K (iTup K te) ρ C := wk_tup (ev_mono h fun r ρ1 ⟨ds, ρ2, a, q⟩ => ⟨ds, ρ2, a, ds, rfl, fun _ _ => rfl, q⟩)
theorem evD_mono {ta : TA} {Q Q' : List PyData → MS → Prop} (h : evD K ta ρ Q) (hq : ∀ ds ρ', Q ds ρ' → Q' ds ρ') : evD K ta ρ Q' := fun σ H0 H G k S hk => h σ H0 H G k S fun ds ρ' vs H1 H1' q => hk ds ρ' vs H1 H1' (hq _ _ q)
def intsFrom (lo : Int) (m : Nat) : List PyData := (List.range m).map fun i : Nat => PyData.int (lo + i)
theorem wkD_rng1 {ta : TA} {C : List PyData → MS → Prop} (h : evD K ta ρ fun ds ρ1 => ∃ j : Int, ds = [.int j] ∧ j < 2 ^ 62 ∧ -(2 ^ 62) ≤ j ∧ C ((List.range j.toNat).map fun i : Nat => PyData.int i) ρ1) : wkD K (iRng1 ta) ρ C :=
  wk_rng1 (evD_mono h fun ds ρ1 ⟨j, e, h1, h2, q⟩ => ⟨j, e, h1, h2, _, by rw [List.length_map, List.length_range], fun i hi => by rw [List.getD_eq_getElem?_getD, List.getElem?_map, List.getElem?_range hi]; rfl, q⟩)
theorem wkD_rng2 {ta : TA} {C : List PyData → MS → Prop} (h : evD K ta ρ fun ds ρ1 => ∃ i j : Int, ds = [.int i, .int j] ∧ (-(2 ^ 62) ≤ i ∧ i < 2 ^ 62 ∧ -(2 ^ 62) ≤ j ∧ j < 2 ^ 62) ∧ C ((List.range (j - i).toNat).map fun x : Nat => PyData.int (i + x)) ρ1) : wkD K (iRng2 ta) ρ C :=
  wk_rng2 (evD_mono h fun ds ρ1 ⟨i, j, e, h1, q⟩ => ⟨i, j, e, h1, _, by rw [List.length_map, List.length_range], fun x hx => by rw [List.getD_eq_getElem?_getD, List.getElem?_map, List.getElem?_range hx]; rfl, q⟩)
theorem wkD_str {C : List PyData → MS → Prop} (h : ev te ρ fun r ρ1 => ∃ z, r = .val (dat K (.str z)) ∧ C (z.cps.toList.map fun c : Nat => PyData.str ⟨#[c]⟩) ρ1) : wkD K (iStr te) ρ C :=
  wk_str (ev_mono h fun r ρ1 ⟨z, e, q⟩ => ⟨z, e, _, by simp, fun i hi => by
    show PyData.str ⟨#[z.cps.getD i 0]⟩ = _
    rw [List.getD_eq_getElem?_getD, List.getElem?_map, Array.getElem?_toList, Array.getD_eq_getD_getElem?, Array.getElem?_eq_getElem hi]
    rfl, q⟩)
theorem x_forD {wi : TI} {g : TG} (h : wkD K wi ρ fun ds ρ1 => ∃ I : Nat → MS → Prop, I 0 ρ1 ∧ (∀ i ρ', i < ds.length → I i ρ' → ∃ l, (∀ j ∈ l, np ≤ j) ∧ tg l g (.val (dat K (ds.getD i .none))) ρ' fun ρ2 => ex np ts ρ2 ⟨I (i + 1), r, n, I (i + 1)⟩) ∧ ∀ ρ', I ds.length ρ' → n ρ') : ex np (tFor wi g ts) ρ ⟨n, r, b, c⟩ := by
  refine x_for (K := K) fun σ H0 H G k S hk => h σ H0 H G k S fun m item ρ1 J H1 H1' ⟨ds, e1, e2, I, i0, st, fin⟩ => hk m item ρ1 J H1 H1' ?_
  subst e1
  refine ⟨I, i0, fun i ρ' hi hI => ?_, fin⟩
  rw [e2 i hi]
  exact st i ρ' hi hI
/-- .. by what has been taken -/
theorem for_pre {α : Type} {g : TG} {ds : List PyData} (xs : List α) (f : α → PyData) (e : ds = xs.map f) (I : List α → MS → Prop) (h0 : I [] ρ) (hs : ∀ pre x post ρ', xs = pre ++ x :: post → I pre ρ' → ∃ l, (∀ j ∈ l, np ≤ j) ∧ tg l g (.val (dat K (f x))) ρ' fun ρ2 => ex np ts ρ2 ⟨I (pre ++ [x]), r, n, I (pre ++ [x])⟩) (hd : ∀ ρ', I xs ρ' → n ρ') :
    ∃ I : Nat → MS → Prop, I 0 ρ ∧ (∀ i ρ', i < ds.length → I i ρ' → ∃ l, (∀ j ∈ l, np ≤ j) ∧ tg l g (.val (dat K (ds.getD i .none))) ρ' fun ρ2 => ex np ts ρ2 ⟨I (i + 1), r, n, I (i + 1)⟩) ∧ ∀ ρ', I ds.length ρ' → n ρ' := by
  subst e
  exact by_pre (xs := xs) (f := f) (P := fun i d N ρ' => ∃ l, (∀ j ∈ l, np ≤ j) ∧ tg l g (.val (dat K d)) ρ' fun ρ2 => ex np ts ρ2 ⟨N, r, n, N⟩) I h0 hs hd
theorem lcH_of {wi : TI} {g : TG} {vs : List Nat} {C : List PyData → MS → Prop} (h : wkD K wi ρ fun ds ρ1 => ds.length ≤ sizeLine ∧ ∃ I : Nat → List PyData → MS → Prop, I 0 [] (wipeM ρ1 vs) ∧ (∀ i acc ρ', i < ds.length → I i acc ρ' → ∃ l, (∀ j ∈ l, j ∈ vs) ∧ tg l g (.val (dat K (ds.getD i .none))) ρ' fun ρ2 => evT t ρ2 fun b ρ3 => (b = true → ev te ρ3 fun r ρ4 => ∃ d ρ5, asD K ρ4 r d ρ5 ∧ I (i + 1) (acc ++ [d]) (wipeM ρ5 vs)) ∧ (b = false → I (i + 1) acc (wipeM ρ3 vs))) ∧ ∀ acc ρ', I ds.length acc ρ' → C acc ρ') : lcH K wi g t te vs ρ C := by
  refine fun σ H0 H G k S hk => h σ H0 H G k S fun m item ρ1 J H1 H1' ⟨ds, e1, e2, hl, I, i0, st, fin⟩ => hk m item ρ1 J H1 H1' ?_
  subst e1
  refine ⟨hl, I, i0, fun i acc ρ' hi hI => ?_, fin⟩
  rw [e2 i hi]
  exact st i acc ρ' hi hI
theorem x_lc {wi : TI} {g : TG} {vs : List Nat} (h : wkD K wi ρ fun ds ρ1 => ds.length ≤ sizeLine ∧ ∃ I : Nat → List PyData → MS → Prop, I 0 [] (wipeM ρ1 vs) ∧ (∀ i acc ρ', i < ds.length → I i acc ρ' → ∃ l, (∀ j ∈ l, j ∈ vs) ∧ tg l g (.val (dat K (ds.getD i .none))) ρ' fun ρ2 => evT t ρ2 fun b ρ3 => (b = true → ev te ρ3 fun r ρ4 => ∃ d ρ5, asD K ρ4 r d ρ5 ∧ I (i + 1) (acc ++ [d]) (wipeM ρ5 vs)) ∧ (b = false → I (i + 1) acc (wipeM ρ3 vs))) ∧ ∀ acc ρ', I ds.length acc ρ' → Q (.val (lo K acc)) ρ') : ev (tLc wi g t te vs) ρ Q := ev_lcO (lcH_of h)
/-- a comprehension by what has been taken -/
theorem lc_pre {α : Type} {g : TG} {vs : List Nat} {ds : List PyData} {C : List PyData → MS → Prop} (xs : List α) (f : α → PyData) (e : ds = xs.map f) (hl : xs.length ≤ 100000) (I : List α → List PyData → MS → Prop) (h0 : I [] [] (wipeM ρ vs))
    (hs : ∀ pre x post acc ρ', xs = pre ++ x :: post → I pre acc ρ' → ∃ l, (∀ j ∈ l, j ∈ vs) ∧ tg l g (.val (dat K (f x))) ρ' fun ρ2 => evT t ρ2 fun b ρ3 => (b = true → ev te ρ3 fun r ρ4 => ∃ d ρ5, asD K ρ4 r d ρ5 ∧ I (pre ++ [x]) (acc ++ [d]) (wipeM ρ5 vs)) ∧ (b = false → I (pre ++ [x]) acc (wipeM ρ3 vs))) (hd : ∀ acc ρ', I xs acc ρ' → C acc ρ') :
    ds.length ≤ sizeLine ∧ ∃ I : Nat → List PyData → MS → Prop, I 0 [] (wipeM ρ vs) ∧ (∀ i acc ρ', i < ds.length → I i acc ρ' → ∃ l, (∀ j ∈ l, j ∈ vs) ∧ tg l g (.val (dat K (ds.getD i .none))) ρ' fun ρ2 => evT t ρ2 fun b ρ3 => (b = true → ev te ρ3 fun r ρ4 => ∃ d ρ5, asD K ρ4 r d ρ5 ∧ I (i + 1) (acc ++ [d]) (wipeM ρ5 vs)) ∧ (b = false → I (i + 1) acc (wipeM ρ3 vs))) ∧ ∀ acc ρ', I ds.length acc ρ' → C acc ρ' := by
  subst e
  refine ⟨by rw [List.length_map]; exact le_line hl, ?_⟩
  exact by_pre2 (xs := xs) (f := f) (P := fun i d ds N ρ' => ∃ l, (∀ j ∈ l, j ∈ vs) ∧ tg l g (.val (dat K d)) ρ' fun ρ2 => evT t ρ2 fun b ρ3 => (b = true → ev te ρ3 fun r ρ4 => ∃ d ρ5, asD K ρ4 r d ρ5 ∧ N (ds ++ [d]) (wipeM ρ5 vs)) ∧ (b = false → N ds (wipeM ρ3 vs))) I h0 hs hd
/-- a comprehension whose turns leave all as it is: filter and map -/
theorem lc_fm {α : Type} {g : TG} {vs : List Nat} {ds : List PyData} {C : List PyData → MS → Prop} (xs : List α) (f : α → PyData) (e : ds = xs.map f) (hl : xs.length ≤ 100000) (p : α → Bool) (h : α → PyData)
    (hs : ∀ x ∈ xs, ∃ l, (∀ j ∈ l, j ∈ vs) ∧ tg l g (.val (dat K (f x))) (wipeM ρ vs) fun ρ2 => evT t ρ2 fun b ρ3 => (b = true → ev te ρ3 fun r ρ4 => ∃ d ρ5, asD K ρ4 r d ρ5 ∧ p x = true ∧ d = h x ∧ wipeM ρ5 vs = wipeM ρ vs) ∧ (b = false → p x = false ∧ wipeM ρ3 vs = wipeM ρ vs)) (hC : C ((xs.filter p).map h) (wipeM ρ vs)) :
    ds.length ≤ sizeLine ∧ ∃ I : Nat → List PyData → MS → Prop, I 0 [] (wipeM ρ vs) ∧ (∀ i acc ρ', i < ds.length → I i acc ρ' → ∃ l, (∀ j ∈ l, j ∈ vs) ∧ tg l g (.val (dat K (ds.getD i .none))) ρ' fun ρ2 => evT t ρ2 fun b ρ3 => (b = true → ev te ρ3 fun r ρ4 => ∃ d ρ5, asD K ρ4 r d ρ5 ∧ I (i + 1) (acc ++ [d]) (wipeM ρ5 vs)) ∧ (b = false → I (i + 1) acc (wipeM ρ3 vs))) ∧ ∀ acc ρ', I ds.length acc ρ' → C acc ρ' := by
  refine lc_pre xs f e hl (fun pre acc ρ' => acc = (pre.filter p).map h ∧ ρ' = wipeM ρ vs) ⟨rfl, rfl⟩ (fun pre x post acc ρ' e ⟨ha, hr⟩ => ?_) fun acc ρ' ⟨ha, hr⟩ => by rw [ha, hr]; exact hC
  subst ha hr
  obtain ⟨l, hl, ht⟩ := hs x (by rw [e]; simp)
  refine ⟨l, hl, fun σ H0 H G v f k S hr hd hk => ht σ H0 H G v f k S hr hd fun ρ3 σ' H0' H' q => hk ρ3 σ' H0' H' (evT_mono q fun b ρ4 ⟨q1, q2⟩ => ⟨fun hb => ?_, fun hb => ?_⟩)⟩
  · refine ev_mono (q1 hb) fun r ρ5 ⟨d, ρ6, a, hp, ed, ew⟩ => ⟨d, ρ6, a, ?_, ew⟩
    rw [List.filter_append, List.map_append, ed]
    simp [List.filter_cons, hp]
  · obtain ⟨hp, ew⟩ := q2 hb
    refine ⟨?_, ew⟩
    rw [List.filter_append, List.map_append]
    simp [List.filter_cons, hp]
theorem x_par2 {i j : Nat} (hij : i ≠ j) (hi : np ≤ i) (hj : np ≤ j) (h : ev ta ρ fun r1 ρ1 => ev tb ρ1 fun r2 ρ2 => ∃ R1, r1 = .val R1 ∧ ∃ R2, r2 = .val R2 ∧ n ((ρ2.set i (some R1)).set j (some R2))) : ex np (tPar i j (tCons ta (tCons tb tNil))) ρ ⟨n, r, b, c⟩ :=
  x_par hij hi hj (evA_cons (ev_mono h fun r1 ρ1 h1 => evA_cons (ev_mono h1 fun r2 ρ2 ⟨R1, e1, R2, e2, q⟩ => evA_nil ⟨r1, r2, rfl, R1, R2, e1, e2, q⟩)))
theorem tgs_consN {i : Nat} {l : List Nat} {gs : TGs} {d : PyData} {ds : List PyData} {Qm : MS → Prop} (h : tg [i] (gName i) (.val (dat K d)) ρ fun ρ1 => tgs K l gs ds ρ1 Qm) : tgs K (i :: l) (gCons (gName i) gs) (d :: ds) ρ Qm := tgs_cons (l1 := [i]) h
theorem x_asg2 {i j m : Nat} (hi : np ≤ i) (hj : np ≤ j) (h : ev te ρ fun r ρ1 => tg [i, j] (gTup K m (gCons (gName i) (gCons (gName j) gNil))) r ρ1 n) : ex np (tAsg te (gTup K m (gCons (gName i) (gCons (gName j) gNil)))) ρ ⟨n, r, b, c⟩ := x_asgT h fun x hx => by
  simp only [List.mem_cons, List.not_mem_nil, or_false] at hx
  rcases hx with rfl | rfl <;> assumption
theorem x_asg3 {i j l m : Nat} (hi : np ≤ i) (hj : np ≤ j) (hl : np ≤ l) (h : ev te ρ fun r ρ1 => tg [i, j, l] (gTup K m (gCons (gName i) (gCons (gName j) (gCons (gName l) gNil)))) r ρ1 n) : ex np (tAsg te (gTup K m (gCons (gName i) (gCons (gName j) (gCons (gName l) gNil))))) ρ ⟨n, r, b, c⟩ := x_asgT h fun x hx => by
  simp only [List.mem_cons, List.not_mem_nil, or_false] at hx
  rcases hx with rfl | rfl | rfl <;> assumption
/-! ### rows -/
theorem op_ixR0 {r1 r2 : Rt} {x : K24.Row} (h1 : rd K ρ r1 (K24.rowD x)) (h2 : rd K ρ r2 (.int 0)) (q : Q (.val (dat K (.int x.1))) ρ) : opR (rIxT K) r1 r2 ρ Q := op_ixT (ds := [.int x.1, .str x.2.1, .int x.2.2]) h1 h2 rfl q
theorem op_ixR1 {r1 r2 : Rt} {x : K24.Row} (h1 : rd K ρ r1 (K24.rowD x)) (h2 : rd K ρ r2 (.int 1)) (q : Q (.val (dat K (.str x.2.1))) ρ) : opR (rIxT K) r1 r2 ρ Q := op_ixT (ds := [.int x.1, .str x.2.1, .int x.2.2]) h1 h2 rfl q
theorem op_ixR2 {r1 r2 : Rt} {x : K24.Row} (h1 : rd K ρ r1 (K24.rowD x)) (h2 : rd K ρ r2 (.int 2)) (q : Q (.val (dat K (.int x.2.2))) ρ) : opR (rIxT K) r1 r2 ρ Q := op_ixT (ds := [.int x.1, .str x.2.1, .int x.2.2]) h1 h2 rfl q
theorem tg_row {l : List Nat} {g : TGs} {x : K24.Row} {Qm : MS → Prop} (h : tgs K l g [.int x.1, .str x.2.1, .int x.2.2] ρ Qm) : tg l (gTup K 3 g) (.val (dat K (K24.rowD x))) ρ Qm := tg_tup (ds := [.int x.1, .str x.2.1, .int x.2.2]) rfl h
/-! ### calls by their places -/
theorem c_zero {M : MSp} (Ps : List Pd) (h : M (Ps.map pu) fun R _ => Q (.val R) ρ) : call0 M (Ps.map fun P => Rt.val (pu P)) ρ Q := ⟨Ps, rfl, h⟩
theorem c_one {M : MSp} {i : Nat} {R0 : Res} (Ps : List Pd) (e : ρ[i]? = some (some R0)) (h : M (R0 :: Ps.map pu) fun R Rs' => ∃ R0', Rs' = [R0'] ∧ Q (.val R) (ρ.set i (some R0'))) : call1 M (Rt.at i :: Ps.map fun P => Rt.val (pu P)) ρ Q := ⟨i, R0, Ps, rfl, e, h⟩
theorem c_draw {i m : Nat} {many : Int} (e : ρ[i]? = some (some (deck m))) (h1 : 1 ≤ many) (h2 : many < 2 ^ 30) (h3 : m < 2 ^ 40) (q : ∀ k : Int, 0 ≤ k → k < many → Q (.val (dat K (.int k))) (ρ.set i (some (deck (m + 1))))) : call1 (drawM K) [Rt.at i, Rt.val (dat K (.int many))] ρ Q :=
  c_one [datP K (.int many)] e ⟨m, many, rfl, h1, h2, h3, fun k k0 k1 => ⟨_, rfl, q k k0 k1⟩⟩
theorem c_pickL {i m : Nat} {ds : List PyData} (e : ρ[i]? = some (some (deck m))) (h1 : 1 ≤ ds.length) (h2 : ds.length < 2 ^ 30) (h3 : m < 2 ^ 40) (q : ∀ d ∈ ds, Q (.val (dat K d)) (ρ.set i (some (deck (m + 1))))) : call1 (pickM K) [Rt.at i, Rt.val (dat K (.list ds))] ρ Q :=
  c_one [datP K (.list ds)] e ⟨m, ds, _, rfl, .inl rfl, h1, h2, h3, fun d hd => ⟨_, rfl, q d hd⟩⟩
theorem c_pickT {i m : Nat} {ds : List PyData} (e : ρ[i]? = some (some (deck m))) (h1 : 1 ≤ ds.length) (h2 : ds.length < 2 ^ 30) (h3 : m < 2 ^ 40) (q : ∀ d ∈ ds, Q (.val (dat K d)) (ρ.set i (some (deck (m + 1))))) : call1 (pickM K) [Rt.at i, Rt.val (dat K (.tuple ds))] ρ Q :=
  c_one [datP K (.tuple ds)] e ⟨m, ds, _, rfl, .inr rfl, h1, h2, h3, fun d hd => ⟨_, rfl, q d hd⟩⟩
end
end ML

/-! sorted(set(..)) of rows, of ints. -/
namespace ML
open PySem L2 KS GL LB
open K24 (Row rowD rowV rowRefs RowsAt keyed keyed_refs unkey key_mem rowK alike_rows)
open PySem.Spec hiding Row
open PyProof.Rows hiding cnt
section
variable {K : PySem.W.Frag} {ρ : MS} {Q : Rt → MS → Prop} {ta : TE} {P : Program} {w : World}
theorem nodup_keys : ∀ l : List Row, (l.map rowK).Nodup → l.Nodup := by
  intro l
  induction l with
  | nil => exact fun _ => List.nodup_nil
  | cons x l ih =>
    intro h
    rw [List.map_cons, List.nodup_cons] at h
    exact List.nodup_cons.mpr ⟨fun hx => h.1 (List.mem_map.mpr ⟨x, hx, rfl⟩), ih h.2⟩
theorem da_rows {H : Hp} : ∀ {rs : List (Addr × Row)}, RowsAt K H rs → DaAll K H (rowRefs rs) ((rs.map (·.2)).map rowD)
  | [], _ => .nil
  | p :: rs, h => .cons (.tup (h p List.mem_cons_self) (.cons (.int _) (.cons (.str _) (.cons (.int _) .nil)))) (da_rows fun q hq => h q (List.mem_cons_of_mem _ hq))
theorem ev_sset_rows (h : ev ta ρ fun r ρ1 => ∃ R : List Row, rd K ρ1 r (.list (R.map rowD)) ∧ R.length ≤ 76 ∧ ∀ R' : List Row, (R'.Pairwise fun a b => W.dataLt (rowD b) (rowD a) = false) → R'.Nodup → (∀ x, x ∈ R' ↔ x ∈ R) → Q (.val (lo K (R'.map rowD))) ρ1) :
    ev (tCB (rSortedK K P w) (tCons (tCB (rSetK K P w) (tCons ta tNil)) tNil)) ρ Q := by
  intro σ H0 H G k S hk
  refine h σ H0 H G _ S fun r1 ρ1 v1 f1 H1 H1' ⟨R, hr, hl, q⟩ p1 => ?_
  obtain ⟨a, xs, rfl, ha, hx⟩ := hr.list p1.sat p1.rt
  obtain ⟨rs, rfl, hrs, hR⟩ := unrow hx
  have S1 := p1.sat.frame (G' := G) fun _ => .inl
  refine ⟨a, keyed rs, rfl, by rw [keyed_refs]; exact .inl (.inl ha), fun z hz => ?_, by unfold keyed; rw [List.length_map, ← List.length_map (f := (·.2)) (as := rs), hrs]; exact hl, fun z LL hz L1 L2 L3 => ?_⟩
  · obtain ⟨r, hr', rfl⟩ := List.mem_map.mp hz
    exact sameT S1.same (hR r hr')
  have zG : ¬ G z := fun e => (S1.fr z e).1 hz
  obtain ⟨rs1, rfl, hs1⟩ := unkey L1
  have Sz := S1.new (o := KSetO P w z (keyed rs1)) hz
  have s0 := same_upd (o := KSetO P w z (keyed rs1)) (S1.same.free hz)
  have hR1 : RowsAt K (upd H1 z (KSetO P w z (keyed rs1))) rs1 := fun x hx => sameT s0 (hR x (hs1 x hx))
  refine ⟨z, keyed rs1, rfl, upd_same, fun x hx => ?_, fun x hx x' hx' => ?_, fun x hx => ?_, fun L' b pm ln hl76 pw hb => ?_⟩
  · obtain ⟨r, hr', rfl⟩ := List.mem_map.mp hx
    exact sameT Sz.same (hR1 r hr')
  · obtain ⟨r, _, rfl⟩ := List.mem_map.mp hx
    obtain ⟨r', _, rfl⟩ := List.mem_map.mp hx'
    exact alike_rows _ _
  · obtain ⟨r, _, rfl⟩ := List.mem_map.mp hx
    exact List.cons_ne_nil _ _
  obtain ⟨rs2, rfl, hs2⟩ := unkey (rs := rs1) (L := L') fun x hx => pm.mem_iff.mp hx
  rw [keyed_refs]
  have hall : ∀ r, r ∈ rs2.map (·.2) ↔ r ∈ R := fun r => by
    rw [← hrs]
    constructor
    · intro h
      obtain ⟨x, hx, e⟩ := List.mem_map.mp h
      exact List.mem_map.mpr ⟨x, hs1 x (hs2 x hx), e⟩
    · intro h
      have h1 := key_mem.mpr h
      obtain ⟨x, hx, e⟩ := List.mem_map.mp h1
      have h2 := L2 x hx
      rw [e] at h2
      exact key_mem.mp ((pm.map (·.2)).mem_iff.mpr h2)
  have nd2 : (rs2.map (·.2)).Nodup := by
    have : (keyed rs2).map (·.2) = (rs2.map (·.2)).map rowK := by
      unfold keyed
      rw [List.map_map, List.map_map]
      rfl
    rw [this] at ln
    exact nodup_keys _ ln
  have pw2 : (rs2.map (·.2)).Pairwise fun a b => W.dataLt (rowD b) (rowD a) = false := by
    unfold keyed at pw
    exact List.pairwise_map.mpr (List.pairwise_map.mp pw)
  have P := post_own Sz hb (da_rows (rs := rs2) fun x hx => hR1 x (hs2 x hx))
  refine hk _ ρ1 _ _ _ _ (q _ pw2 nd2 hall) ⟨⟨(p1.ext.s0.trans s0).trans P.ext.s0, fun b hb => ?_⟩, P.rt, P.dis, P.sat⟩
  rw [P.ext.fr b hb, upd_ne (show b ≠ z from fun e => zG (e ▸ hb)), p1.ext.fr b hb]
/-- .. of ints, fewer than 64 different ones -/
theorem ev_sset_ints (h : ev ta ρ fun r ρ1 => ∃ (ns M : List Int), rd K ρ1 r (.list (ns.map .int)) ∧ ns.length ≤ 4000 ∧ (∀ x ∈ ns, x ∈ M) ∧ M.length < 64 ∧ ∀ ns' : List Int, ns'.Pairwise (· < ·) → (∀ x, x ∈ ns' ↔ x ∈ ns) → Q (.val (lo K (ns'.map .int))) ρ1) :
    ev (tCB (rSortedSet w) (tCons (tCB (rSetJ K w) (tCons ta tNil)) tNil)) ρ Q := by
  intro σ H0 H G k S hk
  refine h σ H0 H G _ S fun r1 ρ1 v1 f1 H1 H1' ⟨ns, M, hr, hl, hM, hM64, q⟩ p1 => ?_
  obtain ⟨a, xs, rfl, ha, hx⟩ := hr.list p1.sat p1.rt
  obtain rfl := hx.toInts
  have S1 := p1.sat.frame (G' := G) fun _ => .inl
  refine ⟨a, ns, rfl, .inl (.inl ha), hl, fun z c hz hc => ?_⟩
  have zG : ¬ G z := fun e => (S1.fr z e).1 hz
  have Sz := S1.new (o := SetO w z (fun j => decide (j ∈ ns)) c) hz
  have s0 := same_upd (o := SetO w z (fun j => decide (j ∈ ns)) c) (S1.same.free hz)
  refine ⟨z, _, c, rfl, upd_same, Nat.lt_of_le_of_lt (hc M hM) hM64, fun ns' b pw hmem _ hb => ?_⟩
  have P := post_own (K := K) Sz hb (DaAll.ints (K := K) ns')
  refine hk _ ρ1 _ _ _ _ (q ns' pw fun x => by rw [hmem x, decide_eq_true_eq]) ⟨⟨(p1.ext.s0.trans s0).trans P.ext.s0, fun b hb => ?_⟩, P.rt, P.dis, P.sat⟩
  rw [P.ext.fr b hb, upd_ne (show b ≠ z from fun e => zG (e ▸ hb)), p1.ext.fr b hb]
end
end ML

/-! Dicts whose keys are None, ints and texts: written, asked for a key, changed. -/
namespace LB
open PySem PySem.Spec PyProof.Rows L2 KS GL
abbrev KN := Option Key
def kN : KN → V
  | none => .non
  | some k => kV k
theorem kN_is {P : Program} {w : World} {k : KN} {u : Value} (r : RelV (kN k) u) : (noneKind P w).is k u = true := by
  cases k with
  | none =>
    obtain rfl : u = Value.none := r
    rfl
  | some k => exact kV_is (P := P) (w := w) r
def NDo (P : Program) (w : World) (a : Addr) (kvs : List (KN × V)) : HO := .ext fun h => kvs.length ≤ sizeLine ∧ (a == sysModules) = false ∧ ∃ vs, KV kvs vs ∧ h.DictOf (noneKind P w) a vs
section
variable {P : Program} {w : World} {H : Hp} {h : Heap} {a : Addr} {kvs : List (KN × V)}
theorem nd_of (ok : HOk P w H h) (e : H a = some (NDo P w a kvs)) : kvs.length ≤ sizeLine ∧ (a == sysModules) = false ∧ ∃ vs, KV kvs vs ∧ h.DictOf (noneKind P w) a vs :=
  (show ObjOk P w H h a (NDo P w a kvs) from ok a _ e).1
theorem nd_new {vs : List (KN × Value)} (z : kvs.length ≤ sizeLine) (hd : (a == sysModules) = false) (rel : KV kvs vs) (dd : h.DictOf (noneKind P w) a vs) : ObjOk P w H h a (NDo P w a kvs) := by
  refine ⟨⟨z, hd, vs, rel, dd⟩, ?_, ?_⟩
  · obtain ⟨o, _, _, ho, _⟩ := dd
    exact ⟨o, ho⟩
  · rintro h1 h2 ⟨z, hd, vs, rel, o, es, ep, ho, r⟩ k
    exact ⟨z, hd, vs, rel, o, es, ep, k o ho, r⟩
theorem nd_empty (d : h.DictOf (mixKind P w) a []) : h.DictOf (noneKind P w) a [] := by
  obtain ⟨o, es, ep, ho, hx, hdt, hk, hp, hn⟩ := d
  have e : es.toList = [] := by
    cases hz : es.toList with
    | nil => rfl
    | cons z zs => rw [hz] at hp; cases hp
  refine ⟨o, es, ep, ho, hx, hdt, fun z hz => ?_, ?_, List.nodup_nil⟩
  · have : z ∈ es.toList := by simpa using hz
    rw [e] at this
    cases this
  · rw [e]
    exact .nil
end
def mergeN (kvs more : List (KN × V)) : List (KN × V) := more.foldl (fun acc kv => putK acc kv.1 kv.2) kvs
theorem kv_mergeN : ∀ {more : List (KN × V)} {rs : List (KN × Value)} {kvs : List (KN × V)} {vs : List (KN × Value)}, KV more rs → KV kvs vs → KV (mergeN kvs more) (merged vs rs) := by
  intro more rs kvs vs r
  unfold KV at r
  induction r generalizing kvs vs with
  | nil => exact fun q => q
  | @cons p q ps qs h t ih =>
    intro r0
    have e := r0.put p.1 h.2
    rw [h.1] at e
    exact ih (kvs := putK kvs q.1 p.2) e |> fun z => by
      unfold mergeN
      rw [List.foldl_cons, h.1]
      exact z
theorem len_mergeN : ∀ (more kvs : List (KN × V)), (mergeN kvs more).length ≤ kvs.length + more.length
  | [], kvs => Nat.le_refl _
  | p :: r, kvs => by
    have h1 := len_mergeN r (putK kvs p.1 p.2)
    have h2 := length_putK kvs p.1 p.2
    unfold mergeN at h1 ⊢
    rw [List.foldl_cons, List.length_cons]
    omega
theorem carriesN {P : Program} {w : World} : ∀ {kvs : List (KN × V)} {ws : List (Value × Value)}, VV (kvs.map fun kv => (kN kv.1, kv.2)) ws → ∃ rs, Carries (noneKind P w) ws rs ∧ KV kvs rs
  | [], _, r => by
    rw [List.map_nil] at r
    cases r
    exact ⟨[], True.intro, .nil⟩
  | p :: kvs, _, r => by
    rw [List.map_cons] at r
    cases r with
    | @cons x b xs bs h t =>
      obtain ⟨rs, c, q⟩ := carriesN (P := P) (w := w) t
      exact ⟨(p.1, b.2) :: rs, ⟨kN_is h.1, rfl, c⟩, .cons ⟨rfl, h.2⟩ q⟩
/-- {k: v, ..}; the new dict stands empty while the pairs are made -/
def tDispN (P : Program) (w : World) (trs : List (TE × TE)) : TE := fun σ H Q => ∀ p, H p = none → tPairs trs σ (upd H p (.dK [])) fun ps H2 => H2 p = some (.dK []) ∧
  ∃ kvs : List (KN × V), ps = kvs.map (fun kv => (kN kv.1, kv.2)) ∧ kvs.length ≤ 15 ∧ Q (.ref p) (upd H2 p (NDo P w p (mergeN [] kvs)))
/-- y not in d -/
def tNinN (P : Program) (w : World) (ty td : TE) : TE := fun σ H Q => ty σ H fun y H1 => td σ H1 fun x H2 => ∃ a kvs k, x = .ref a ∧ y = kN k ∧ H2 a = some (NDo P w a kvs) ∧ Q (.bl (!(valV kvs k).isSome)) H2
/-- d[y] = v -/
def sPutN (P : Program) (w : World) (td ty tv : TE) : TS := fun D σ H => tv σ H fun v H1 => td σ H1 fun x H2 => ty σ H2 fun y H3 => ∃ a kvs k, x = .ref a ∧ y = kN k ∧ H3 a = some (NDo P w a kvs) ∧ kvs.length < sizeLine ∧
  D.nx σ (upd H3 a (NDo P w a (putK kvs k v)))
section
variable {X : Cx} {pos pos' : Pos} {o i value : Expr} {td ty tv : TE}
theorem pe_dispN {keys : List (Option Expr)} {values : List Expr} {trs : List (TE × TE)} (h : PPs X pos keys values trs) (hall : keys.all (·.isSome) = true) (hl : keys.length = values.length) (h0 : keys ≠ []) (h15 : keys.length ≤ 15) :
    PE X (.Dict keys values pos) (tDispN X.prog X.w trs) := by
  refine ⟨fun pins s σ H Q I q => ?_⟩
  have hn := I.hok.fresh (Nat.le_refl s.heap.objs.size)
  have I1 := I.laid (a := s.heap.objs.size) (o := .dK []) (h' := s.heap.push { cls := .type "dict", data := .dict #[] }) (t' := s.toks) (fun _ _ q => Heap.get?_push_of_some _ q) (Nat.le_refl _) (dk_empty s.heap I.big)
  refine wpAny_Dict_walk (knd := noneKind X.prog X.w) hall hl h0 h15 (thn (h.run pins _ σ _ _ I1 (q _ hn)) fun ws s2 ⟨ps, H2, I2, rel, e, kvs, ep, lk, q2⟩ => ?_)
  subst ep
  obtain ⟨rs, c, rk⟩ := carriesN (P := X.prog) (w := X.w) rel
  obtain ⟨z, hd, vs0, r0, dd⟩ := dk_of I2.hok e
  cases r0
  refine ⟨rs, c, nd_empty dd, fun h' dd' hs => ⟨.ref s.heap.objs.size, _, ?_, rfl, q2⟩⟩
  have hz : (mergeN [] kvs).length ≤ sizeLine := by
    have h1 := len_mergeN kvs []
    rw [List.length_nil] at h1
    rw [sizeLine_eq]
    omega
  have he : ∃ q, h'.get? s.heap.objs.size = some q := by
    obtain ⟨q, _, _, hq, _⟩ := dd'
    exact ⟨q, hq⟩
  exact d_write I2 (by rw [e]; exact True.intro) hs he (nd_new hz hd (kv_mergeN rk .nil) dd')
theorem pc_ninN (hi : PE X i ty) (ho : PE X o td) : PC X .NotIn i o (tNinN X.prog X.w ty td) := by
  refine ⟨fun pins s σ H Q I h => ?_⟩
  refine thn (hi.run pins s σ H _ I h) fun iv s1 ⟨y, H1, I1, ry, q1⟩ => thn (ho.run pins s1 σ H1 _ I1 q1) fun u s2 ⟨x, H2, I2, rx, a, kvs, k, ex, ey, g, q2⟩ => ?_
  subst ex ey
  obtain rfl : u = Value.ref a := rx
  obtain ⟨z, hd, vs, rel, dd⟩ := nd_of I2.hok g
  refine wpAny_notIn_of (kN_is ry) hd dd.mapOf ?_
  rw [← (rel.val k).isSome_eq]
  exact ⟨.bl (!(valV kvs k).isSome), H2, I2.tok _, rfl, q2⟩
theorem ps_putN (ho : PE X o td) (hi : PE X i ty) (hv : PE X value tv) (hs : swapsWith value (some (.Subscript o i pos')) pos.line X.env = pure false) : PS X (.Assign [.Subscript o i pos'] value pos) (sPutN X.prog X.w td ty tv) := by
  refine ⟨fun pins s σ H D I h => ?_⟩
  refine wpAny_Assign_Subscript (thn (hv.run pins s σ H _ I h) fun r s1 ⟨v, H1, I1, rv, q1⟩ => thn (ho.run pins s1 σ H1 _ I1 q1) fun u s2 ⟨x, H2, I2, rx, q2⟩ => thn (hi.run pins s2 σ H2 _ I2 q2) fun iv s3 ⟨y, H3, I3, ry, a, kvs, k, ex, ey, g, hl, q3⟩ => ?_) hs
  subst ex ey
  obtain rfl : u = Value.ref a := rx
  obtain ⟨z, hd, vs, rel, dd⟩ := nd_of I3.hok g
  have hz : vs.length ≤ sizeLine := by rw [← rel.length]; exact z
  have hp : (putK kvs k v).length ≤ sizeLine := Nat.le_trans (length_putK kvs k v) hl
  refine wpAny_setItem_pairs (hsz := hz) (kN_is ry) dd fun h' dd' sb => ⟨σ, _, ?_, q3⟩
  have he : ∃ q, h'.get? a = some q := by
    obtain ⟨q, _, _, hq, _⟩ := dd'
    exact ⟨q, hq⟩
  exact d_write I3 (by rw [g]; exact True.intro) sb he (nd_new hp hd (rel.put k rv) dd')
end
end LB

/-! Loops over what is a list or a tuple. -/
namespace LB
open PySem PySem.Spec PyProof.Rows L2 KS GL
abbrev SqQ (K : PySem.W.Frag) (H : Hp) (a : Addr) (xs : List V) : Prop := SqL K H a xs ∨ SqT K H a xs
theorem sqT_mono {K : PySem.W.Frag} {H H' : Hp} {a : Addr} {xs : List V} (s : Same H H') (h : SqT K H a xs) : SqT K H' a xs := by
  rcases h with (z | ⟨o, z⟩) | z
  · exact .inl (.inl (s _ _ z))
  · exact .inl (.inr ⟨o, s _ _ z⟩)
  · exact .inr z
theorem SqQ.mono {K : PySem.W.Frag} {H H' : Hp} {a : Addr} {xs : List V} (h : SqQ K H a xs) (s : Same H H') : SqQ K H' a xs := h.imp (fun z => s.seq z) fun z => sqT_mono s z
def iSeq (K : PySem.W.Frag) (tl : TE) : TI := fun σ H R => tl σ H fun x H1 => ∃ a, x = .ref a ∧ (((∃ xs, SqL K H1 a xs) ∧ R (Itl K a) H1) ∨ ((∃ xs, SqT K H1 a xs) ∧ R (Itt K a) H1))
theorem pi_seq {X : Cx} {tg : Expr} {l : Expr} {tl : TE} (hl : PE X l tl) : PI X tg l (iSeq X.K tl) := by
  refine ⟨fun pins s σ H R I h => ?_⟩
  refine thn (hl.run pins s σ H _ I h) fun v s1 ⟨x, H1, I1, r1, q1⟩ => ?_
  obtain ⟨a, e, q⟩ := q1
  subst e
  cases r1
  rcases q with ⟨⟨xs, hq⟩, q⟩ | ⟨⟨xs, hq⟩, q⟩
  · obtain ⟨its, rv, p, hz⟩ := I1.list hq
    refine wpAny_pyIter_list p.isList ?_
    refine ⟨s1.heap.objs.size, [s1.heap.objs.size], _, _, H1, rfl, I1.kept (t' := s1.toks) fun b o e => Heap.get?_push_of_some _ e, turn_list a _, ⟨_, Heap.get?_push_size _ rfl, rfl, rfl⟩, fun b hb => ?_, q⟩
    have e : b = s1.heap.objs.size := by simpa using hb
    subst e
    exact I1.fpOk (Nat.le_refl _) (I1.hok.fresh (Nat.le_refl _))
  · obtain ⟨its, rv, p, hz⟩ := I1.tuple hq
    refine wpAny_pyIter_tuple (show s1.heap.IsTuple a its.toArray from p) ?_
    refine ⟨s1.heap.objs.size, [s1.heap.objs.size], _, _, H1, rfl, I1.kept (t' := s1.toks) fun b o e => Heap.get?_push_of_some _ e, turn_tuple a _, ⟨_, Heap.get?_push_size _ rfl, rfl, rfl⟩, fun b hb => ?_, q⟩
    have e : b = s1.heap.objs.size := by simpa using hb
    subst e
    exact I1.fpOk (Nat.le_refl _) (I1.hok.fresh (Nat.le_refl _))
section
variable {K : PySem.W.Frag} {a : Addr} {xs : List V} {H0 H : Hp}
/-- a loop over it -/
theorem for_seq {te : TE} {g : TG} {tb : TS} {D : Ends} {σ : L2.St} (ht : ∀ Q : VK, Q (.ref a) H → te σ H Q) (h : SqQ K H0 a xs) (s : Same H0 H) (Pv : Nat → L2.St → Hp → Prop) (h0 : Pv 0 σ H) (hl : ∀ i σ H, i ≤ xs.length → Pv i σ H → Same H0 H)
    (hs : ∀ i x σ H, xs[i]? = some x → Pv i σ H → g x σ H fun σ2 H2 => tb { D with nx := Pv (i + 1), ct := Pv (i + 1), bk := D.nx } σ2 H2) (hd : ∀ σ H, Pv xs.length σ H → D.nx σ H) : tFor (iSeq K te) g tb D σ H := by
  refine ht _ ⟨a, rfl, ?_⟩
  rcases h with h | h
  · exact .inl ⟨⟨xs, s.seq h⟩, for_list Pv h0 (fun i σ H hi p => (hl i σ H hi p).seq h) hs hd⟩
  · exact .inr ⟨⟨xs, sqT_mono s h⟩, for_tup Pv h0 (fun i σ H hi p => sqT_mono (hl i σ H hi p) h) hs hd⟩
end
end LB

/-! More of the mirror: many names at once, dicts with None among the keys, lists or tuples, what an old promise hands back. -/
namespace ML
open PySem PySem.Spec PyProof.Rows L2 KS GL LB
/-! ### many names at once -/
def setAll (ρ : MS) : List Nat → List Res → MS
  | i :: l, R :: Rs => setAll (ρ.set i (some R)) l Rs
  | _, _ => ρ
def namesG : List Nat → TGs
  | [] => gNil
  | i :: l => gCons (gName i) (namesG l)
section
variable {K : PySem.W.Frag} {np : Nat} {n b c : MS → Prop} {r : Rt → MS → Prop} {ρ : MS}
theorem names_go {H0 H : Hp} {G : FP} {Q : L2.St → Hp → Prop} : ∀ {l : List Nat} {Rs : List Res} {ρ : MS} {σ0 σ : L2.St} {vs : List V} {f : FP}, Rs.length = l.length → RtsH (Rs.map Rt.val) σ0 H0 H vs f → Sat ρ σ H0 H (fun a => G a ∨ f a) → (∀ a, f a → ¬ G a) → (∀ i ∈ l, np ≤ i) →
    (∀ σ', σ'.take np = σ.take np → Sat (setAll ρ l Rs) σ' H0 H G → Q σ' H) → vs.length = l.length ∧ namesG l vs σ H Q
  | [], [], ρ, σ0, σ, vs, f, _, h, S, _, _, q => by
    obtain ⟨rfl, hf⟩ := h
    exact ⟨rfl, rfl, q σ rfl (S.frame fun _ => .inl)⟩
  | i :: l, R :: Rs, ρ, σ0, σ, vs, f, e, h, S, d, hn, q => by
    obtain ⟨v, vs', f1, f2, rfl, h1, h2, hf, hd⟩ := h
    have S1 : Sat ρ σ H0 H fun a => (G a ∨ f2 a) ∨ f1 a := S.frame fun a ha => by
      rcases ha with (ha | ha) | ha
      · exact .inl ha
      · exact .inr ((hf a).mpr (.inr ha))
      · exact .inr ((hf a).mpr (.inl ha))
    have S2 := S1.set (i := i) h1 fun a ha hb => hb.elim (d a ((hf a).mpr (.inl ha))) (hd a ha)
    obtain ⟨e2, q2⟩ := names_go (l := l) (Rs := Rs) (Nat.succ.inj e) h2 S2 (fun a ha => d a ((hf a).mpr (.inr ha))) (fun j hj => hn j (List.mem_cons_of_mem _ hj)) fun σ' ht S' => q σ' (ht.trans (take_set (hn i List.mem_cons_self))) S'
    exact ⟨by rw [List.length_cons, List.length_cons, e2], v, vs', rfl, q2⟩
theorem x_asgN {l : List Nat} {ta : TA} (hn : ∀ i ∈ l, np ≤ i) (hl : l.length ≤ 100) (h : evA ta ρ fun rs ρ1 => ∃ Rs, rs = Rs.map Rt.val ∧ Rs.length = l.length ∧ n (setAll ρ1 l Rs)) : ex np (tAsg (tTup ta) (gTup K l.length (namesG l))) ρ ⟨n, r, b, c⟩ := by
  intro σ H0 H G D S kn _ _ _
  refine h σ H0 H G _ S fun rs ρ1 vs f H1 H1' ⟨Rs, e, el, q⟩ p => ?_
  subst e
  have go : ∀ {H2 H2' : Hp}, Ext G H0 H H2 H2' → RtsH (Rs.map Rt.val) σ H2 H2' vs f → Sat ρ1 σ H2 H2' (fun a => G a ∨ f a) → vs.length = l.length ∧ namesG l vs σ H2' D.nx := fun {H2 H2'} x h2 S2 =>
    names_go el h2 S2 p.dis hn fun σ' ht S' => kn _ σ' H2 H2' q ht x S'
  have lv := (go p.ext p.rt p.sat).1
  refine ⟨by rw [lv]; exact Nat.le_trans hl (by decide), fun t ht => ⟨t, vs, rfl, .inl (.inl upd_same), lv, ?_⟩⟩
  have ft : ∀ a, f a → a ≠ t := fun a ha e => (p.sat.fr a (.inr ha)).1 (by rw [e]; exact ht)
  have h0 := p.sat.same.free ht
  refine (go ⟨p.ext.s0.trans (same_upd h0), fun a ha => ?_⟩ (RtsH.loc (same_upd (o := .tup vs) h0) p.rt fun a ha => ⟨upd_ne (ft a ha), by rw [upd_ne (ft a ha)]; exact (p.sat.fr a (.inr ha)).2⟩) (p.sat.new ht)).2
  have at' : a ≠ t := fun e => (p.sat.fr a (.inl ha)).1 (by rw [e]; exact ht)
  rw [upd_ne at']
  exact p.ext.fr a ha
theorem x_parT2 {i j : Nat} {ta tb : TE} (hi : np ≤ i) (hj : np ≤ j) (h : ev ta ρ fun r1 ρ1 => ev tb ρ1 fun r2 ρ2 => ∃ R1, r1 = .val R1 ∧ ∃ R2, r2 = .val R2 ∧ n ((ρ2.set i (some R1)).set j (some R2))) :
    ex np (tAsg (tTup (tCons ta (tCons tb tNil))) (gTup K 2 (gCons (gName i) (gCons (gName j) gNil)))) ρ ⟨n, r, b, c⟩ := by
  refine x_asgN (l := [i, j]) (fun x hx => ?_) (show 2 ≤ 100 by decide) (evA_cons (ev_mono h fun r1 ρ1 h1 => evA_cons (ev_mono h1 fun r2 ρ2 h2 => evA_nil ?_)))
  · simp only [List.mem_cons, List.not_mem_nil, or_false] at hx
    rcases hx with rfl | rfl <;> assumption
  · obtain ⟨R1, rfl, R2, rfl, q⟩ := h2
    exact ⟨[R1, R2], rfl, rfl, q⟩
theorem x_par4 {i j k l : Nat} {ta tb tc td : TE} (hi : np ≤ i) (hj : np ≤ j) (hk : np ≤ k) (hl : np ≤ l)
    (h : ev ta ρ fun r1 ρ1 => ev tb ρ1 fun r2 ρ2 => ev tc ρ2 fun r3 ρ3 => ev td ρ3 fun r4 ρ4 => ∃ R1, r1 = .val R1 ∧ ∃ R2, r2 = .val R2 ∧ ∃ R3, r3 = .val R3 ∧ ∃ R4, r4 = .val R4 ∧ n ((((ρ4.set i (some R1)).set j (some R2)).set k (some R3)).set l (some R4))) :
    ex np (tAsg (tTup (tCons ta (tCons tb (tCons tc (tCons td tNil))))) (gTup K 4 (gCons (gName i) (gCons (gName j) (gCons (gName k) (gCons (gName l) gNil)))))) ρ ⟨n, r, b, c⟩ := by
  refine x_asgN (l := [i, j, k, l]) (fun x hx => ?_) (show 4 ≤ 100 by decide) (evA_cons (ev_mono h fun r1 ρ1 h1 => evA_cons (ev_mono h1 fun r2 ρ2 h2 => evA_cons (ev_mono h2 fun r3 ρ3 h3 => evA_cons (ev_mono h3 fun r4 ρ4 h4 => evA_nil ?_)))))
  · simp only [List.mem_cons, List.not_mem_nil, or_false] at hx
    rcases hx with rfl | rfl | rfl | rfl <;> assumption
  · obtain ⟨R1, rfl, R2, rfl, R3, rfl, R4, rfl, q⟩ := h4
    exact ⟨[R1, R2, R3, R4], rfl, rfl, q⟩
end
/-! ### dicts with None among the keys; only the keys are told -/
def keyN : KN → PyData
  | none => .none
  | some k => keyD k
theorem keyN_da {K : PySem.W.Frag} {H : Hp} {k : KN} {v : V} (h : Da K H v (keyN k)) : v = kN k := by
  cases k with
  | none =>
    cases h
    rfl
  | some k => exact key_da h
def hasN (ks : List KN) (k : KN) : Bool := ks.any fun j => decide (j = k)
theorem hasN_add (ks ls : List KN) (k : KN) : hasN (ks ++ ls) k = (hasN ks k || hasN ls k) := List.any_append
theorem hasN_one (j k : KN) : hasN [j] k = decide (j = k) := by simp [hasN]
def KeysN (kvs : List (KN × V)) (ks : List KN) : Prop := kvs.length ≤ ks.length ∧ ∀ k, (valV kvs k).isSome = hasN ks k
theorem KeysN.put {kvs : List (KN × V)} {ks : List KN} (h : KeysN kvs ks) (k : KN) (v : V) : KeysN (putK kvs k v) (ks ++ [k]) := by
  refine ⟨Nat.le_trans (length_putK kvs k v) (by rw [List.length_append]; exact Nat.succ_le_succ h.1), fun j => ?_⟩
  rw [valV_put, hasN_add, hasN_one]
  by_cases e : j = k
  · rw [if_pos e, decide_eq_true e.symm, Bool.or_true]
    rfl
  · rw [if_neg e, h.2 j, decide_eq_false fun z => e z.symm, Bool.or_false]
theorem KeysN.merge : ∀ {more kvs : List (KN × V)} {ks : List KN}, KeysN kvs ks → KeysN (mergeN kvs more) (ks ++ more.map (·.1))
  | [], kvs, ks, h => by
    rw [List.map_nil, List.append_nil]
    exact h
  | p :: r, kvs, ks, h => by
    have := KeysN.merge (more := r) (h.put p.1 p.2)
    rw [List.append_assoc] at this
    exact this
def dn (P : Program) (w : World) (ks : List KN) : Res := ⟨fun H0 H v f => ∃ a kvs, v = .ref a ∧ (∀ z, f z ↔ z = a) ∧ H0 a = none ∧ H a = some (NDo P w a kvs) ∧ KeysN kvs ks,
  fun {H0 H0' H H' v f} ⟨a, xs, e, hf, h1, h2, h3⟩ s hk => ⟨a, xs, e, hf, (hk a ((hf a).mpr rfl)).2, by rw [(hk a ((hf a).mpr rfl)).1]; exact h2, h3⟩,
  fun {H0 H v f z} ⟨a, xs, e, hf, h1, h2, h3⟩ hz => by
    obtain rfl := (hf z).mp hz
    exact ⟨by rw [h2]; exact Option.some_ne_none _, h1⟩⟩
section
variable {P : Program} {w : World} {K : PySem.W.Frag} {ρ : MS} {Q : Rt → MS → Prop} {ta tb td ty tv : TE} {np : Nat} {n b c : MS → Prop} {r : Rt → MS → Prop}
/-- a written dict's pairs -/
def evPsN (K : PySem.W.Frag) (trs : List (TE × TE)) (ρ : MS) (Q : List KN → MS → Prop) : Prop := ∀ (σ : L2.St) (H0 H : Hp) (G : FP) (k : List (V × V) → Hp → Prop), Sat ρ σ H0 H G →
  (∀ m ρ' ps H0' H', Q m ρ' → Ext G H0 H H0' H' → (∃ vs : List (KN × V), ps = vs.map (fun kv : KN × V => (kN kv.1, kv.2)) ∧ vs.map (·.1) = m) → Sat ρ' σ H0' H' G → k ps H') → tPairs trs σ H k
theorem evPsN_nil {Q : List KN → MS → Prop} (q : Q [] ρ) : evPsN K [] ρ Q := fun σ H0 H G k S hk => hk [] ρ [] H0 H q Ext.refl ⟨[], rfl, rfl⟩ S
theorem evPsN_cons {trs : List (TE × TE)} {Q : List KN → MS → Prop} (h : ev ta ρ fun r ρ1 => ∃ x, r = .val (dat K (keyN x)) ∧ ev tb ρ1 fun r2 ρ2 => ∃ d, r2 = .val (dat K d) ∧ evPsN K trs ρ2 fun m ρ4 => Q (x :: m) ρ4) : evPsN K ((ta, tb) :: trs) ρ Q := by
  intro σ H0 H G k S hk
  refine h σ H0 H G _ S fun r1 ρ1 v1 f1 H1 H1' ⟨x, e, h1⟩ p1 => ?_
  subst e
  have hv := keyN_da p1.rt.1
  subst hv
  refine h1 σ H1 H1' G _ (p1.sat.frame fun _ => .inl) fun r2 ρ2 v2 f2 H2 H2' ⟨d, ed, h2⟩ p2 => ?_
  refine h2 σ H2 H2' G _ (p2.sat.frame fun _ => .inl) fun m ρ4 ps H4 H4' h4 e4 ⟨vs, ep, hvs⟩ S4 => ?_
  subst ep
  exact hk _ ρ4 _ H4 H4' h4 ((p1.ext.trans p2.ext).trans e4) ⟨(x, v2) :: vs, rfl, by rw [List.map_cons, hvs]⟩ S4
theorem ev_dispN {trs : List (TE × TE)} (h : evPsN K trs ρ fun m ρ1 => m.length ≤ 15 ∧ Q (.val (dn P w m)) ρ1) : ev (tDispN P w trs) ρ Q := by
  intro σ H0 H G k S hk p hp
  have hG : ¬ G p := fun e => (S.fr p e).1 hp
  refine h σ H0 (upd H p (.dK [])) (fun a => G a ∨ a = p) _ (S.own hp) fun m ρ1 ps H1 H1' ⟨hl, q⟩ e1 ⟨vs, ep, hvs⟩ S1 => ?_
  subst ep
  have hp1 : H1' p = some (.dK []) := by rw [e1.fr p (.inr rfl), upd_same]
  have lv : vs.length = m.length := by rw [← hvs, List.length_map]
  have km := KeysN.merge (more := vs) (kvs := []) (ks := []) ⟨Nat.le_refl _, fun k => rfl⟩
  rw [List.nil_append, hvs] at km
  refine ⟨hp1, vs, rfl, by rw [lv]; exact hl, hk _ _ _ (fun a => a = p) H1 _ q ⟨⟨e1.s0, fun a ha => ?_⟩, ⟨p, _, rfl, fun _ => Iff.rfl, (S1.fr p (.inr rfl)).2, upd_same, km⟩, fun a e => e ▸ hG, S1.mut (fun a ha => upd_ne ha) fun a ha => ?_⟩⟩
  · have ap : a ≠ p := fun e => hG (e ▸ ha)
    rw [upd_ne ap, e1.fr a (.inl ha), upd_ne ap]
  · rw [ha, upd_same]
    exact Option.some_ne_none _
theorem ev_ninN {i : Nat} (h : ev ty ρ fun r1 ρ1 => ∃ k, r1 = .val (dat K (keyN k)) ∧ ∃ ks, ρ1[i]? = some (some (dn P w ks)) ∧ Q (.val (dat K (.bool (!hasN ks k)))) ρ1) : ev (tNinN P w ty (tVar i)) ρ Q := by
  intro σ H0 H G kk S hk
  refine h σ H0 H G _ S fun r1 ρ1 v1 f1 H1 H1' ⟨k, e, ks, hi, q⟩ p1 => ?_
  subst e
  have hv := keyN_da p1.rt.1
  have S1 : Sat ρ1 σ H1 H1' G := p1.sat.frame fun _ => .inl
  obtain ⟨v, f, ev', ⟨a, kvs, rfl, hf, h1, h2, h3⟩, _⟩ := S1.get hi
  refine ⟨.ref a, ev', a, kvs, k, rfl, hv, h2, ?_⟩
  rw [h3.2 k]
  exact hk _ _ _ _ _ _ q (post_ext p1.ext (post_pure S1 (.bl _)))
theorem x_putN {i : Nat} (h : ev tv ρ fun r1 ρ1 => ∃ d, r1 = .val (dat K d) ∧ (∃ R, ρ1[i]? = some (some R)) ∧ ev ty ρ1 fun r2 ρ2 => ∃ k, r2 = .val (dat K (keyN k)) ∧ ∃ ks, ρ2[i]? = some (some (dn P w ks)) ∧ ks.length < sizeLine ∧ n (ρ2.set i (some (dn P w (ks ++ [k]))))) :
    ex np (sPutN P w (tVar i) ty tv) ρ ⟨n, r, b, c⟩ := by
  intro σ H0 H G D S kn _ _ _
  refine h σ H0 H G _ S fun r1 ρ1 v f1 H1 H1' ⟨d, e, ⟨R, hR⟩, h1⟩ p1 => ?_
  have S1 := p1.sat.frame (G' := G) fun _ => .inl
  obtain ⟨u, _, eu, _⟩ := S1.get hR
  refine ⟨u, eu, h1 σ _ _ G _ S1 fun r2 ρ2 v2 f2 H3 H3' ⟨k, e2, ks, hi, hl, q⟩ p3 => ?_⟩
  subst e2
  obtain rfl := keyN_da p3.rt.1
  have S3 := p3.sat.frame (G' := G) fun _ => .inl
  obtain ⟨u', f', eu', ⟨a, kvs, rfl, hf, h1, h2, h3⟩, d', S4⟩ := S3.take hi
  obtain rfl : V.ref a = u := Option.some.inj (Option.some.inj (eu'.symm.trans eu))
  have hGa : ¬ G a := d' a ((hf a).mpr rfl)
  have S5 : Sat (ρ2.set i none) σ H3 (upd H3' a (NDo P w a (putK kvs k v))) fun z => G z ∨ f' z := S4.mut (fun z hz => upd_ne fun e => hz ((hf z).mpr e)) fun z hz => by
    rw [(hf z).mp hz, upd_same]
    exact Option.some_ne_none _
  have S6 := S5.back (R := dn P w (ks ++ [k])) eu ⟨a, _, rfl, hf, h1, upd_same, h3.put k v⟩ d'
  refine ⟨a, kvs, k, rfl, rfl, h2, Nat.lt_of_le_of_lt h3.1 hl, kn _ σ H3 _ q rfl ⟨p1.ext.s0.trans p3.ext.s0, fun z hz => ?_⟩ S6⟩
  have za : z ≠ a := fun e => hGa (by rw [← e]; exact hz)
  rw [upd_ne za, p3.ext.fr z hz, p1.ext.fr z hz]
/-! ### what is a list or a tuple -/
theorem wkD_seq {C : List PyData → MS → Prop} (h : ev ta ρ fun r ρ1 => ∃ d ds, r = .val (dat K d) ∧ (d = .list ds ∨ d = .tuple ds) ∧ C ds ρ1) : wkD K (iSeq K ta) ρ C := by
  intro σ H0 H G k S hk
  refine h σ H0 H G _ S fun r ρ1 v f H1 H1' ⟨d, ds, e, hd, q⟩ p => ?_
  subst e
  have S1 : Sat ρ1 σ H1 H1' G := p.sat.frame fun _ => .inl
  have fin : ∀ {J : It} {a : Addr} {vs : List V}, DaAll K H1 vs ds → Walk J vs.length (fun H2 => Same H1 H2) (YAt vs) → k J H1' := fun {J a vs} h2 w => by
    refine hk _ (fun i => ds.getD i .none) ρ1 J H1 H1' ⟨ds, rfl, fun _ _ => rfl, q⟩ p.ext S1 ?_
    rw [← h2.len]
    exact w.mono (fun H s => s) fun i H x H' _ _ y => yd_at h2 y
  have hda := p.rt.1
  rcases hd with rfl | rfl
  · cases hda with
    | lst h1 h2 =>
      rename_i a vs
      exact ⟨a, rfl, .inl ⟨⟨vs, .inl (.inl (S1.same _ _ h1))⟩, fin (a := a) h2 ((walk_list (K := K) (a := a) (xs := vs)).mono (fun H s => .inl (.inl (s _ _ h1))) fun i H x H' _ _ y => y)⟩⟩
  · cases hda with
    | tup h1 h2 =>
      rename_i a vs
      exact ⟨a, rfl, .inr ⟨⟨vs, sameT S1.same h1⟩, fin (a := a) h2 ((L2.walk_tup (K := K) (a := a) (xs := vs)).mono (fun H s => sameT s h1) fun i H x H' _ _ y => y)⟩⟩
end
/-! ### what an old promise hands back: all that is new stands -/
def nowH (H0 H H' : Hp) : Hp := fun a => if H a = none then H' a else H0 a
theorem now_same {H0 H H' : Hp} (s : Same H0 H) : Same H0 (nowH H0 H H') := fun a u e => by
  unfold nowH
  rw [if_neg (by rw [s a u e]; exact Option.some_ne_none _)]
  exact e
theorem now_new {H0 H H' : Hp} {a : Addr} (h : H a = none) : nowH H0 H H' a = H' a := if_pos h
theorem now_sub {H0 H H' : Hp} (s0 : Same H0 H) (s : Same H H') : Same (nowH H0 H H') H' := fun a u e => by
  unfold nowH at e
  split at e
  · exact e
  · exact s a u (s0 a u e)
theorem fin_new {ρ : MS} {σ : L2.St} {H0 H H' : Hp} {G : FP} (S : Sat ρ σ H0 H G) (s : Same H H') : Ext G H0 H (nowH H0 H H') H' ∧ Sat [] [] (nowH H0 H H') H' fun a => G a ∨ False := by
  have hG : ∀ a, G a → H' a = H a := fun a ha => by
    cases e : H a with
    | none => exact absurd e (S.fr a ha).1
    | some u => exact s a u e
  refine ⟨⟨now_same S.same, hG⟩, sat_nil (now_sub S.same s) fun a ha => ?_⟩
  have ha := ha.resolve_right id
  have h1 := S.fr a ha
  exact ⟨by rw [hG a ha]; exact h1.1, by unfold nowH; rw [if_neg h1.1]; exact h1.2⟩
end ML

/-! Cycles in a list of edges: by taking away what leads nowhere, and by leads that are doubled. Plain Lean. -/
namespace K24m
abbrev Edges := List (Int × Int)
inductive Path (E : Edges) : Int → Int → Prop
  | one {x y : Int} : (x, y) ∈ E → Path E x y
  | cons {x y z : Int} : (x, y) ∈ E → Path E y z → Path E x z
theorem Path.trans {E : Edges} {x y z : Int} (h : Path E x y) (k : Path E y z) : Path E x z := by
  induction h with
  | one e => exact .cons e k
  | cons e _ ih => exact .cons e (ih k)
def Cyc (E : Edges) : Prop := ∃ x, Path E x x

/-! ### a finite set in which everybody has a successor -/
inductive Tr (R : Int → Int → Prop) : Int → Int → Prop
  | one {x y : Int} : R x y → Tr R x y
  | cons {x y z : Int} : R x y → Tr R y z → Tr R x z
theorem Tr.trans {R : Int → Int → Prop} {x y z : Int} (h : Tr R x y) (k : Tr R y z) : Tr R x z := by
  induction h with
  | one e => exact .cons e k
  | cons e _ ih => exact .cons e (ih k)
theorem Tr.map {R S : Int → Int → Prop} {x y : Int} (h : Tr R x y) (k : ∀ a b, R a b → Tr S a b) : Tr S x y := by
  induction h with
  | one e => exact k _ _ e
  | cons e _ ih => exact (k _ _ e).trans ih
theorem round_of : ∀ (n : Nat) (l : List Int) (R : Int → Int → Prop), l.length ≤ n → l ≠ [] → (∀ x ∈ l, ∃ y ∈ l, R x y) → ∃ x, Tr R x x
  | 0, l, R, hn, hne, _ => absurd (List.eq_nil_of_length_eq_zero (Nat.le_zero.mp hn)) hne
  | n + 1, l, R, hn, hne, h => by
    obtain ⟨x, hx⟩ := List.exists_mem_of_ne_nil l hne
    by_cases hc : R x x
    · exact ⟨x, .one hc⟩
    obtain ⟨u, hu, hxu⟩ := h x hx
    have hux : u ≠ x := fun e => hc (e ▸ hxu)
    have hu' : u ∈ l.filter (fun y => decide (y ≠ x)) := List.mem_filter.mpr ⟨hu, decide_eq_true hux⟩
    have hlen : (l.filter (fun y => decide (y ≠ x))).length < l.length := by
      have h1 := List.length_filter_le (fun y => decide (y ≠ x)) l
      rcases Nat.lt_or_ge (l.filter (fun y => decide (y ≠ x))).length l.length with z | z
      · exact z
      · have e : (l.filter (fun y => decide (y ≠ x))).length = l.length := Nat.le_antisymm h1 z
        have := (List.length_filter_eq_length_iff.mp e) x hx
        simp at this
    obtain ⟨y, hy⟩ := round_of n (l.filter fun y => decide (y ≠ x)) (fun a b => R a b ∨ (R a x ∧ R x b)) (by omega) (fun e => by rw [e] at hu'; cases hu') (fun a ha => by
      have ha1 := (List.mem_filter.mp ha).1
      obtain ⟨b, hb, hab⟩ := h a ha1
      by_cases hbx : b = x
      · exact ⟨u, hu', .inr ⟨hbx ▸ hab, hxu⟩⟩
      · exact ⟨b, List.mem_filter.mpr ⟨hb, decide_eq_true hbx⟩, .inl hab⟩)
    refine ⟨y, hy.map fun a b hab => ?_⟩
    rcases hab with hab | ⟨h1, h2⟩
    · exact .one hab
    · exact .cons h1 (.one h2)

/-! ### counting -/
/-- the edges of s that lead to none of P -/
def cnt (E : Edges) (P : List Int) (s : Int) : Nat := (E.filter fun e => decide (e.1 = s ∧ e.2 ∉ P)).length
/-- the sources of the edges that lead to h, in their order -/
def befs (E : Edges) (h : Int) : List Int := (E.filter fun e => decide (e.2 = h)).map (·.1)
theorem cnt_zero {E : Edges} {P : List Int} {s : Int} : cnt E P s = 0 ↔ ∀ t, (s, t) ∈ E → t ∈ P := by
  unfold cnt
  rw [List.length_eq_zero_iff, List.filter_eq_nil_iff]
  constructor
  · intro h t ht
    have := h (s, t) ht
    simp at this
    exact this
  · rintro h ⟨a, b⟩ hab
    simp
    rintro rfl
    exact h b hab
theorem cnt_snoc {P : List Int} {h s : Int} (hp : h ∉ P) : ∀ E : Edges, cnt E (P ++ [h]) s + (befs E h).count s = cnt E P s
  | [] => rfl
  | (a, b) :: E => by
    have ih := cnt_snoc hp E (s := s)
    unfold cnt befs at ih ⊢
    by_cases ha : a = s
    · by_cases hb : b = h
      · subst ha hb
        simp [List.filter_cons, hp]
        simp at ih
        omega
      · by_cases hbp : b ∈ P
        · simp [List.filter_cons, ha, hb, hbp]
          simpa using ih
        · simp [List.filter_cons, ha, hb, hbp]
          simp at ih
          omega
    · by_cases hb : b = h
      · subst hb
        have : ¬ a = s := ha
        simp [List.filter_cons, ha, List.count_cons]
        simpa using ih
      · simp [List.filter_cons, ha, hb]
        simpa using ih
theorem mem_befs {E : Edges} {h s : Int} : s ∈ befs E h ↔ (s, h) ∈ E := by
  unfold befs
  rw [List.mem_map]
  constructor
  · rintro ⟨⟨a, b⟩, hm, rfl⟩
    have := List.mem_filter.mp hm
    simp at this
    rw [← this.2]
    exact this.1
  · intro hm
    exact ⟨(s, h), List.mem_filter.mpr ⟨hm, by simp⟩, rfl⟩

/-! ### taking away -/
/-- P is taken away, W waits for it -/
structure Kahn (E : Edges) (P W : List Int) : Prop where
  nd : (P ++ W).Nodup
  safe : ∀ P1 x P2, P = P1 ++ x :: P2 → ∀ t, (x, t) ∈ E → t ∈ P1
  wait : ∀ x ∈ W, ∀ t, (x, t) ∈ E → t ∈ P
  all : ∀ y, ((∃ s, (s, y) ∈ E) ∨ ∃ t, (y, t) ∈ E) → (∀ t, (y, t) ∈ E → t ∈ P) → y ∈ P ++ W
  tgt : ∀ x ∈ P ++ W, (∃ s, (s, x) ∈ E) ∨ ∃ t, (x, t) ∈ E
theorem Kahn.here {E : Edges} {P W : List Int} {h : Int} (k : Kahn E P (W ++ [h])) : h ∉ P := by
  have nd := k.nd
  rw [← List.append_assoc] at nd
  intro hp
  have := (List.nodup_append.mp nd).2.2 h (List.mem_append_left _ hp) h (List.mem_singleton.mpr rfl)
  exact this rfl
/-- what is behind the last one -/
theorem Kahn.step {E : Edges} {P W Z : List Int} {h : Int} (k : Kahn E P (W ++ [h])) (zn : Z.Nodup) (zm : ∀ z, z ∈ Z ↔ z ∈ befs E h ∧ cnt E P z = (befs E h).count z) : Kahn E (P ++ [h]) (W ++ Z) := by
  have hp := k.here
  have nd := k.nd
  have nd2 : (P ++ [h] ++ W).Nodup := by
    have e : (P ++ (W ++ [h])).Perm (P ++ [h] ++ W) := by
      rw [List.append_assoc]
      exact List.Perm.append_left P List.perm_append_comm
    exact e.nodup_iff.mp nd
  refine ⟨?_, ?_, ?_, ?_, ?_⟩
  · rw [← List.append_assoc]
    refine List.nodup_append.mpr ⟨nd2, zn, fun a ha b hb e => ?_⟩
    subst e
    have hb' := (zm a).mp hb
    have hm := mem_befs.mp hb'.1
    rcases List.mem_append.mp ha with h1 | h1
    · rcases List.mem_append.mp h1 with h2 | h2
      · obtain ⟨P1, P2, e⟩ := List.append_of_mem h2
        have := k.safe P1 a P2 e h hm
        exact hp (by rw [e]; exact List.mem_append_left _ this)
      · rw [List.mem_singleton] at h2
        subst h2
        exact hp (k.wait a (List.mem_append_right _ (List.mem_singleton.mpr rfl)) a hm)
    · exact hp (k.wait a (List.mem_append_left _ h1) h hm)
  · intro P1 x P2 e t ht
    rcases List.eq_nil_or_concat P2 with rfl | ⟨P3, y, rfl⟩
    · have e1 := List.append_inj' e rfl
      rw [← e1.1]
      have : h = x := by simpa using e1.2
      subst this
      exact k.wait h (List.mem_append_right _ (List.mem_singleton.mpr rfl)) t ht
    · have e' : P ++ [h] = (P1 ++ x :: P3) ++ [y] := by rw [e]; simp
      have e1 := List.append_inj' e' rfl
      exact k.safe P1 x P3 e1.1 t ht
  · intro x hx t ht
    rcases List.mem_append.mp hx with h1 | h1
    · exact List.mem_append_left _ (k.wait x (List.mem_append_left _ h1) t ht)
    · have z := (zm x).mp h1
      have c := cnt_snoc hp E (s := x)
      have c0 : cnt E (P ++ [h]) x = 0 := by omega
      exact cnt_zero.mp c0 t ht
  · intro y hy hall
    by_cases hq : ∀ t, (y, t) ∈ E → t ∈ P
    · have := k.all y hy hq
      rw [← List.append_assoc] at this ⊢
      rcases List.mem_append.mp this with h1 | h1
      · refine List.mem_append_left _ ?_
        rcases List.mem_append.mp h1 with h2 | h2
        · exact List.mem_append_left _ (List.mem_append_left _ h2)
        · exact List.mem_append_right _ h2
      · exact List.mem_append_left _ (List.mem_append_left _ (List.mem_append_right _ h1))
    · have c0 : cnt E (P ++ [h]) y = 0 := cnt_zero.mpr hall
      have c := cnt_snoc hp E (s := y)
      have hne : cnt E P y ≠ 0 := fun e => hq (cnt_zero.mp e)
      have hpos : 0 < (befs E h).count y := by omega
      refine List.mem_append_right _ (List.mem_append_right _ ((zm y).mpr ⟨List.count_pos_iff.mp hpos, by omega⟩))
  · intro x hx
    rcases List.mem_append.mp hx with h1 | h1
    · rcases List.mem_append.mp h1 with h2 | h2
      · exact k.tgt x (List.mem_append_left _ h2)
      · exact k.tgt x (List.mem_append_right _ (List.mem_append_right _ h2))
    · rcases List.mem_append.mp h1 with h2 | h2
      · exact k.tgt x (List.mem_append_right _ (List.mem_append_left _ h2))
      · exact .inr ⟨h, mem_befs.mp ((zm x).mp h2).1⟩
theorem safe_no {E : Edges} : ∀ (n : Nat) (P : List Int), P.length = n → (∀ P1 x P2, P = P1 ++ x :: P2 → ∀ t, (x, t) ∈ E → t ∈ P1) → ∀ x ∈ P, ¬ Path E x x
  | 0, P, hn, _, x, hx => by rw [List.eq_nil_of_length_eq_zero hn] at hx; cases hx
  | n + 1, P, hn, hs, x, hx => by
    rcases List.eq_nil_or_concat P with rfl | ⟨Q, h, rfl⟩
    · cases hx
    simp only [List.concat_eq_append] at hn hs hx
    have hs' : ∀ P1 x P2, Q = P1 ++ x :: P2 → ∀ t, (x, t) ∈ E → t ∈ P1 := fun P1 x P2 e t ht => hs P1 x (P2 ++ [h]) (by rw [e]; simp) t ht
    have hQ : Q.length = n := by simpa using hn
    have ih := safe_no n Q hQ hs'
    have closed : ∀ a ∈ Q, ∀ t, (a, t) ∈ E → t ∈ Q := fun a ha t ht => by
      obtain ⟨P1, P2, e⟩ := List.append_of_mem ha
      rw [e]
      exact List.mem_append_left _ (hs' P1 a P2 e t ht)
    have stays : ∀ a b, Path E a b → a ∈ Q → b ∈ Q := by
      intro a b hab
      induction hab with
      | one e => exact fun ha => closed _ ha _ e
      | cons e _ ih2 => exact fun ha => ih2 (closed _ ha _ e)
    intro hp
    by_cases hxQ : x ∈ Q
    · exact ih x hxQ hp
    have hxh : x = h := by
      rcases List.mem_append.mp hx with z | z
      · exact absurd z hxQ
      · exact List.mem_singleton.mp z
    subst hxh
    have first : ∀ t, (x, t) ∈ E → t ∈ Q := hs Q x [] rfl
    cases hp with
    | one e => exact hxQ (first _ e)
    | cons e p => exact hxQ (stays _ _ p (first _ e))
/-- at the end, nobody waiting -/
theorem Kahn.fin {E : Edges} {P : List Int} (k : Kahn E P []) : (∃ s, cnt E P s ≠ 0) ↔ Cyc E := by
  constructor
  · rintro ⟨s, hs⟩
    have hn : ∀ y, ((∃ s, (s, y) ∈ E) ∨ ∃ t, (y, t) ∈ E) → y ∉ P → ∃ t, (y, t) ∈ E ∧ t ∉ P := fun y hy hyP => by
      refine Classical.byContradiction fun no => hyP ?_
      have := k.all y hy fun t ht => Classical.byContradiction fun z => no ⟨t, ht, z⟩
      simpa using this
    have h1 : ∃ t, (s, t) ∈ E ∧ t ∉ P := Classical.byContradiction fun no => hs (cnt_zero.mpr fun t ht => Classical.byContradiction fun z => no ⟨t, ht, z⟩)
    obtain ⟨t0, e0, h0⟩ := h1
    obtain ⟨x, hx⟩ := round_of _ ((E.map (·.2)).filter fun y => decide (y ∉ P)) (fun a b => (a, b) ∈ E) (Nat.le_refl _) (fun e => by
      have : t0 ∈ (E.map (·.2)).filter fun y => decide (y ∉ P) := List.mem_filter.mpr ⟨List.mem_map.mpr ⟨(s, t0), e0, rfl⟩, decide_eq_true h0⟩
      rw [e] at this
      cases this) (fun a ha => by
      have ha' := List.mem_filter.mp ha
      obtain ⟨⟨q, a'⟩, hq, rfl⟩ := List.mem_map.mp ha'.1
      obtain ⟨t, ht, htP⟩ := hn a' (.inl ⟨q, hq⟩) (of_decide_eq_true ha'.2)
      exact ⟨t, List.mem_filter.mpr ⟨List.mem_map.mpr ⟨(a', t), ht, rfl⟩, decide_eq_true htP⟩, ht⟩)
    have conv : ∀ a b, Tr (fun a b => (a, b) ∈ E) a b → Path E a b := by
      intro a b h
      induction h with
      | one e => exact .one e
      | cons e _ ih => exact .cons e ih
    exact ⟨x, conv _ _ hx⟩
  · rintro ⟨x, hx⟩
    refine Classical.byContradiction fun no => ?_
    have all0 : ∀ s t, (s, t) ∈ E → t ∈ P := fun s t ht => cnt_zero.mp (Classical.byContradiction fun z => no ⟨s, z⟩) t ht
    have hxP : x ∈ P := by
      have last : ∀ a b, Path E a b → b ∈ P := by
        intro a b h
        induction h with
        | one e => exact all0 _ _ e
        | cons _ _ ih => exact ih
      exact last _ _ hx
    exact safe_no _ P rfl k.safe x hxP hx
/-- at the beginning -/
theorem Kahn.init {E : Edges} {W : List Int} (nd : W.Nodup) (hm : ∀ y, y ∈ W ↔ (∃ s, (s, y) ∈ E) ∧ ∀ t, (y, t) ∉ E) : Kahn E [] W := by
  refine ⟨by simpa using nd, fun P1 x P2 e => ?_, fun x hx t ht => absurd ht (((hm x).mp hx).2 t), fun y hy hall => ?_, fun x hx => ?_⟩
  · have := congrArg List.length e
    simp at this
  · have no : ∀ t, (y, t) ∉ E := fun t ht => by simpa using hall t ht
    rcases hy with ⟨s, hs⟩ | ⟨t, ht⟩
    · simpa using (hm y).mpr ⟨⟨s, hs⟩, no⟩
    · exact absurd ht (no t)
  · exact .inl ((hm x).mp (by simpa using hx)).1

/-! ### leads, doubled -/
/-- a key's leads -/
structure Leads (E : Edges) (ks : List Int) (L : Int → List Int) : Prop where
  keys : ∀ s, s ∈ ks ↔ ∃ t, (s, t) ∈ E
  nd : ∀ s ∈ ks, (L s).Nodup
  base : ∀ s t, (s, t) ∈ E → t ∈ L s
  sound : ∀ s ∈ ks, ∀ t ∈ L s, Path E s t
/-- one doubling -/
structure Next (ks : List Int) (L L' : Int → List Int) : Prop where
  nd : ∀ s ∈ ks, (L' s).Nodup
  mem : ∀ s ∈ ks, ∀ t, t ∈ L' s ↔ t ∈ L s ∨ ∃ m ∈ L s, m ∈ ks ∧ t ∈ L m
theorem Leads.next {E : Edges} {ks : List Int} {L L' : Int → List Int} (l : Leads E ks L) (n : Next ks L L') : Leads E ks L' := by
  refine ⟨l.keys, n.nd, fun s t ht => (n.mem s ((l.keys s).mpr ⟨t, ht⟩) t).mpr (.inl (l.base s t ht)), fun s hs t ht => ?_⟩
  rcases (n.mem s hs t).mp ht with h | ⟨m, hm, hmk, hmt⟩
  · exact l.sound s hs t h
  · exact (l.sound s hs m hm).trans (l.sound m hmk t hmt)
theorem nodup_le {l m : List Int} (nd : l.Nodup) (h : ∀ x ∈ l, x ∈ m) : l.length ≤ m.length := by
  induction l generalizing m with
  | nil => exact Nat.zero_le _
  | cons x l ih =>
    have hx := h x List.mem_cons_self
    obtain ⟨m1, m2, rfl⟩ := List.append_of_mem hx
    have nd' := List.nodup_cons.mp nd
    have := ih (m := m1 ++ m2) nd'.2 fun y hy => by
      have hy' := h y (List.mem_cons_of_mem _ hy)
      rcases List.mem_append.mp hy' with z | z
      · exact List.mem_append_left _ z
      · rcases List.mem_cons.mp z with rfl | z
        · exact absurd hy nd'.1
        · exact List.mem_append_right _ z
    simp at this ⊢
    omega
theorem nodup_eq {l m : List Int} (nd : l.Nodup) (nm : m.Nodup) (h : ∀ x ∈ l, x ∈ m) (he : m.length ≤ l.length) : ∀ x ∈ m, x ∈ l := by
  intro x hx
  refine Classical.byContradiction fun no => ?_
  have := nodup_le (l := x :: l) (m := m) (List.nodup_cons.mpr ⟨no, nd⟩) fun y hy => by
    rcases List.mem_cons.mp hy with rfl | hy
    · exact hx
    · exact h y hy
  simp at this
  omega
def total (ks : List Int) (L : Int → List Int) : Nat := (ks.map fun s => (L s).length).sum
theorem total_le {ks : List Int} {L L' : Int → List Int} (h : ∀ s ∈ ks, (L s).length ≤ (L' s).length) : total ks L ≤ total ks L' := by
  unfold total
  induction ks with
  | nil => exact Nat.le_refl _
  | cons s ks ih =>
    rw [List.map_cons, List.map_cons, List.sum_cons, List.sum_cons]
    have := ih fun x hx => h x (List.mem_cons_of_mem _ hx)
    have := h s List.mem_cons_self
    omega
theorem total_eq {ks : List Int} {L L' : Int → List Int} (h : ∀ s ∈ ks, (L s).length ≤ (L' s).length) (e : total ks L = total ks L') : ∀ s ∈ ks, (L' s).length ≤ (L s).length := by
  unfold total at e
  induction ks with
  | nil => exact fun s hs => (nomatch hs)
  | cons s ks ih =>
    rw [List.map_cons, List.map_cons, List.sum_cons, List.sum_cons] at e
    have h1 := h s List.mem_cons_self
    have h2 : total ks L ≤ total ks L' := total_le fun x hx => h x (List.mem_cons_of_mem _ hx)
    unfold total at h2
    intro x hx
    rcases List.mem_cons.mp hx with rfl | hx
    · omega
    · exact ih (fun x hx => h x (List.mem_cons_of_mem _ hx)) (by omega) x hx
theorem Next.up {E : Edges} {ks : List Int} {L L' : Int → List Int} (l : Leads E ks L) (n : Next ks L L') : ∀ s ∈ ks, (L s).length ≤ (L' s).length := fun s hs =>
  nodup_le (l.nd s hs) fun t ht => (n.mem s hs t).mpr (.inl ht)
theorem path_tgt {E : Edges} {s t : Int} (h : Path E s t) : t ∈ E.map (·.2) := by
  induction h with
  | @one a b e => exact List.mem_map.mpr ⟨(a, b), e, rfl⟩
  | cons _ _ ih => exact ih
theorem total_bound {E : Edges} {ks : List Int} {L : Int → List Int} (l : Leads E ks L) : total ks L ≤ ks.length * E.length := by
  have h : ∀ s ∈ ks, (L s).length ≤ E.length := fun s hs => by
    have := nodup_le (l.nd s hs) fun t ht => path_tgt (l.sound s hs t ht)
    simpa using this
  unfold total
  clear l
  induction ks with
  | nil => simp
  | cons s ks ih =>
    rw [List.map_cons, List.sum_cons, List.length_cons, Nat.succ_mul]
    have := ih fun x hx => h x (List.mem_cons_of_mem _ hx)
    have := h s List.mem_cons_self
    omega
/-- when nothing is new -/
theorem Leads.fin {E : Edges} {ks : List Int} {L L' : Int → List Int} (l : Leads E ks L) (n : Next ks L L') (e : total ks L = total ks L') : (∃ s ∈ ks, s ∈ L' s) ↔ Cyc E := by
  have l' := l.next n
  constructor
  · rintro ⟨s, hs, h⟩
    exact ⟨s, l'.sound s hs s h⟩
  · have back : ∀ s ∈ ks, ∀ t ∈ L' s, t ∈ L s := fun s hs => nodup_eq (l.nd s hs) (n.nd s hs) (fun t ht => (n.mem s hs t).mpr (.inl ht)) (total_eq (Next.up l n) e s hs)
    have allp : ∀ s t, Path E s t → t ∈ L s := by
      intro s t h
      induction h with
      | one e => exact l.base _ _ e
      | @cons s m t hm p ih =>
        have hs : s ∈ ks := (l.keys s).mpr ⟨m, hm⟩
        have hmk : m ∈ ks := by
          cases p with
          | one e => exact (l.keys m).mpr ⟨_, e⟩
          | cons e _ => exact (l.keys m).mpr ⟨_, e⟩
        exact back s hs t ((n.mem s hs t).mpr (.inr ⟨m, l.base _ _ hm, hmk, ih⟩))
    rintro ⟨x, hx⟩
    have hk : x ∈ ks := by
      cases hx with
      | one e => exact (l.keys x).mpr ⟨_, e⟩
      | cons e _ => exact (l.keys x).mpr ⟨_, e⟩
    exact ⟨x, hk, (n.mem x hk x).mpr (.inl (allp x x hx))⟩
/-- cycles hang on the edges as a set alone -/
theorem Cyc.congr {E F : Edges} (h : ∀ e, e ∈ E ↔ e ∈ F) : Cyc E ↔ Cyc F := by
  have go : ∀ {E F : Edges}, (∀ e, e ∈ E → e ∈ F) → ∀ x y, Path E x y → Path F x y := by
    intro E F h x y p
    induction p with
    | one e => exact .one (h _ e)
    | cons e _ ih => exact .cons (h _ e) ih
  exact ⟨fun ⟨x, hx⟩ => ⟨x, go (fun e => (h e).mp) x x hx⟩, fun ⟨x, hx⟩ => ⟨x, go (fun e => (h e).mpr) x x hx⟩⟩
end K24m

namespace K24
open PySem PySem.Spec L2 KS GL LB K24m
open PyProof.Rows hiding cnt
theorem cnt_add (E : Edges) (s t x : Int) : cnt (E ++ [(s, t)]) [] x = cnt E [] x + if x = s then 1 else 0 := by
  unfold cnt
  rw [List.filter_append, List.length_append]
  by_cases h : x = s
  · rw [if_pos h]
    simp [List.filter_cons, h.symm]
  · rw [if_neg h]
    have : ¬ s = x := fun e => h e.symm
    simp [List.filter_cons, this]
theorem cnt_le (E : Edges) (P : List Int) (x : Int) : cnt E P x ≤ E.length := List.length_filter_le _ _
theorem befs_add (E : Edges) (s t x : Int) : befs (E ++ [(s, t)]) x = befs E x ++ if x = t then [s] else [] := by
  unfold befs
  rw [List.filter_append, List.map_append]
  by_cases h : x = t
  · rw [if_pos h]
    simp [List.filter_cons, h.symm]
  · rw [if_neg h]
    have : ¬ t = x := fun e => h e.symm
    simp [List.filter_cons, this]
theorem befs_le (E : Edges) (x : Int) : (befs E x).length ≤ E.length := by
  unfold befs
  rw [List.length_map]
  exact List.length_filter_le _ _
theorem befs_nil {E : Edges} {x : Int} : befs E x = [] ↔ ∀ s, (s, x) ∉ E := by
  rw [List.eq_nil_iff_forall_not_mem]
  exact ⟨fun h s hs => h s (mem_befs.mpr hs), fun h s hs => h s (mem_befs.mp hs)⟩
def mf (E : Edges) (g : Int → Int) : Int → Option V := fun s => if cnt E [] s = 0 then none else some (.int (g s))
def bf (E : Edges) (pt : Int → Addr) : Int → Option V := fun t => if befs E t = [] then none else some (.ref (pt t))
/-- the two dicts and the lists of those before -/
structure ES (H0 H : Hp) (M B : Addr) (E : Edges) (f : Int → Option V) (pt : Int → Addr) : Prop where
  same : Same H0 H
  fm : H0 M = none
  fb : H0 B = none
  ne : M ≠ B
  fl : ∀ t, befs E t ≠ [] → H0 (pt t) = none
  m : ∃ kvs, H M = some (.dK kvs) ∧ DM kvs f
  b : ∃ kvs, H B = some (.dK kvs) ∧ DM kvs (bf E pt)
  l : ∀ t, befs E t ≠ [] → H (pt t) = some (.lst ((befs E t).map V.int))
  inj : ∀ t t', befs E t ≠ [] → befs E t' ≠ [] → pt t = pt t' → t = t'
section
variable {H0 H : Hp} {M B : Addr} {E : Edges} {f : Int → Option V} {pt : Int → Addr}
theorem ES.neM (e : ES H0 H M B E f pt) {t : Int} (h : befs E t ≠ []) : pt t ≠ M := fun x => by
  obtain ⟨kvs, h1, _⟩ := e.m
  rw [← x, e.l t h] at h1
  cases h1
theorem ES.neB (e : ES H0 H M B E f pt) {t : Int} (h : befs E t ≠ []) : pt t ≠ B := fun x => by
  obtain ⟨kvs, h1, _⟩ := e.b
  rw [← x, e.l t h] at h1
  cases h1
/-- another thing is written -/
theorem ES.other (e : ES H0 H M B E f pt) {w : Addr} {H' : Hp} (hw : H0 w = none) (w1 : w ≠ M) (w2 : w ≠ B) (w3 : ∀ t, befs E t ≠ [] → w ≠ pt t) (hh : ∀ a, a ≠ w → H' a = H a) : ES H0 H' M B E f pt := by
  obtain ⟨kvs, h1, d1⟩ := e.m
  obtain ⟨kv2, h2, d2⟩ := e.b
  refine ⟨fun a u ha => ?_, e.fm, e.fb, e.ne, e.fl, ⟨kvs, by rw [hh _ w1.symm]; exact h1, d1⟩, ⟨kv2, by rw [hh _ w2.symm]; exact h2, d2⟩, fun t ht => by rw [hh _ (w3 t ht).symm]; exact e.l t ht, e.inj⟩
  rw [hh a (fun x => by rw [x, hw] at ha; cases ha)]
  exact e.same a u ha
theorem ES.free (e : ES H0 H M B E f pt) {w : Addr} (hw : H w = none) : H0 w = none ∧ w ≠ M ∧ w ≠ B ∧ ∀ t, befs E t ≠ [] → w ≠ pt t := by
  obtain ⟨kvs, h1, d1⟩ := e.m
  obtain ⟨kv2, h2, d2⟩ := e.b
  refine ⟨e.same.free hw, fun x => ?_, fun x => ?_, fun t ht x => ?_⟩
  · rw [x, h1] at hw; cases hw
  · rw [x, h2] at hw; cases hw
  · rw [x, e.l t ht] at hw; cases hw
theorem ES.junk (e : ES H0 H M B E f pt) {w : Addr} {o : HO} (hw : H w = none) : ES H0 (upd H w o) M B E f pt := by
  obtain ⟨a1, a2, a3, a4⟩ := e.free hw
  exact e.other a1 a2 a3 a4 fun a ha => upd_ne ha
/-- many is written -/
theorem ES.many (e : ES H0 H M B E f pt) {kvs : List (Key × V)} {g : Int → Option V} (d : DM kvs g) : ES H0 (upd H M (.dK kvs)) M B E g pt := by
  obtain ⟨kv2, h2, d2⟩ := e.b
  refine ⟨fun a u ha => ?_, e.fm, e.fb, e.ne, e.fl, ⟨kvs, upd_same, d⟩, ⟨kv2, by rw [upd_ne e.ne.symm]; exact h2, d2⟩, fun t ht => by rw [upd_ne (e.neM ht)]; exact e.l t ht, e.inj⟩
  rw [upd_ne (ne_of_none ha e.fm)]
  exact e.same a u ha
/-- one more edge; t is no target yet -/
theorem ES.new (e : ES H0 H M B E f pt) {s t : Int} {p : Addr} {kvs : List (Key × V)} {H' : Hp} (hb : befs E t = []) (hp : H p = none) (d : DM kvs (fun x => if x = t then some (.ref p) else bf E pt x))
    (hB : H' B = some (.dK kvs)) (hP : H' p = some (.lst [.int s])) (hh : ∀ a, a ≠ B → a ≠ p → H' a = H a) : ES H0 H' M B (E ++ [(s, t)]) f (fun x => if x = t then p else pt x) := by
  obtain ⟨a1, a2, a3, a4⟩ := e.free hp
  obtain ⟨kv1, h1, d1⟩ := e.m
  have key : ∀ x, ¬ x = t → befs (E ++ [(s, t)]) x = befs E x := fun x hx => by rw [befs_add, if_neg hx, List.append_nil]
  have keyt : befs (E ++ [(s, t)]) t = [s] := by rw [befs_add, if_pos rfl, hb]; rfl
  refine ⟨fun a u ha => ?_, e.fm, e.fb, e.ne, fun x hx => ?_, ⟨kv1, by rw [hh _ e.ne a2.symm]; exact h1, d1⟩, ⟨kvs, hB, d.congr fun x => ?_⟩, fun x hx => ?_, fun x y hx hy hxy => ?_⟩
  · rw [hh a (ne_of_none ha e.fb) (ne_of_none ha a1)]
    exact e.same a u ha
  · by_cases h : x = t
    · simp only [h, if_true]; exact a1
    · simp only [h, if_false]
      rw [key x h] at hx
      exact e.fl x hx
  · unfold bf
    by_cases h : x = t
    · subst h
      rw [keyt, if_pos rfl, if_neg (by simp)]
      simp
    · rw [if_neg h, key x h]
      simp [h]
  · by_cases h : x = t
    · subst h
      rw [keyt]
      simp only [if_true]
      exact hP
    · rw [key x h] at hx ⊢
      simp only [h, if_false]
      rw [hh _ (e.neB hx) (a4 x hx).symm]
      exact e.l x hx
  · by_cases h : x = t
    · by_cases k : y = t
      · rw [h, k]
      · rw [key y k] at hy
        simp only [h, k, if_true, if_false] at hxy
        exact absurd hxy (a4 y hy)
    · rw [key x h] at hx
      by_cases k : y = t
      · rw [if_neg h, if_pos k] at hxy
        exact absurd hxy.symm (a4 x hx)
      · rw [key y k] at hy
        simp only [h, k, if_false] at hxy
        exact e.inj x y hx hy hxy
/-- one more edge; t is a target -/
theorem ES.old (e : ES H0 H M B E f pt) {s t : Int} {H' : Hp} (hb : befs E t ≠ []) (hP : H' (pt t) = some (.lst ((befs E t).map V.int ++ [.int s]))) (hh : ∀ a, a ≠ pt t → H' a = H a) : ES H0 H' M B (E ++ [(s, t)]) f pt := by
  obtain ⟨kv1, h1, d1⟩ := e.m
  obtain ⟨kv2, h2, d2⟩ := e.b
  have key : ∀ x, ¬ x = t → befs (E ++ [(s, t)]) x = befs E x := fun x hx => by rw [befs_add, if_neg hx, List.append_nil]
  have keyt : befs (E ++ [(s, t)]) t = befs E t ++ [s] := by rw [befs_add, if_pos rfl]
  have keyn : ∀ x, befs (E ++ [(s, t)]) x = [] ↔ befs E x = [] := fun x => by
    by_cases h : x = t
    · subst h
      rw [keyt]
      simp [hb]
    · rw [key x h]
  refine ⟨fun a u ha => ?_, e.fm, e.fb, e.ne, fun x hx => e.fl x fun z => hx ((keyn x).mpr z), ⟨kv1, by rw [hh _ (e.neM hb).symm]; exact h1, d1⟩, ⟨kv2, by rw [hh _ (e.neB hb).symm]; exact h2, d2.congr fun x => ?_⟩, fun x hx => ?_, fun x y hx hy => e.inj x y (fun z => hx ((keyn x).mpr z)) fun z => hy ((keyn y).mpr z)⟩
  · rw [hh a (ne_of_none ha (e.fl t hb))]
    exact e.same a u ha
  · unfold bf
    by_cases h : befs E x = []
    · rw [if_pos h, if_pos ((keyn x).mpr h)]
    · rw [if_neg h, if_neg fun z => h ((keyn x).mp z)]
  · have hx' : befs E x ≠ [] := fun z => hx ((keyn x).mpr z)
    by_cases h : x = t
    · subst h
      rw [hP, keyt, List.map_append]
      rfl
    · rw [key x h, hh _ fun z => h (e.inj x t hx' hb z)]
      exact e.l x hx'
end
end K24

namespace K24
open PySem PySem.Spec L2 KS GL LB
open PyProof.Rows hiding cnt
def topS (i : Nat) : Stmt := PySem.Challenge.pw_loopsaid_k21_removal_sequences.main.body.getD i (.Pass ⟨0, 0, 0, 0⟩)
abbrev nENDl : Str := "END_loops"
abbrev sNexts : Stmt := topS 4
abbrev sFrom : Stmt := topS 5
abbrev sLive : Stmt := topS 6
abbrev sEndless : Stmt := topS 7
abbrev sHas : Stmt := topS 8
abbrev sLoop : Stmt := topS 9
abbrev sFirst : Stmt := topS 10
abbrev sWithout : Stmt := topS 11
abbrev sRemoval : Stmt := topS 12
abbrev sHolds : Stmt := topS 13
abbrev sNumberIn : Stmt := topS 34
abbrev sStatesIn : Stmt := topS 35
abbrev sArrowIn : Stmt := topS 36
abbrev sChartBegunAt : Stmt := topS 37
abbrev sDeck : Stmt := topS 40
abbrev sDraw : Stmt := topS 41
abbrev sPick : Stmt := topS 42
abbrev sSign : Stmt := topS 43
abbrev sGrown : Stmt := topS 44
abbrev sSeen : Stmt := topS 45
abbrev sTurns : Stmt := topS 46
abbrev sIsLoop : Stmt := topS 47
abbrev sAfter : Stmt := topS 48
abbrev sInTurn : Stmt := topS 49
abbrev sIsRow : Stmt := topS 50
abbrev sIsRemoval : Stmt := topS 51
abbrev sRowBent : Stmt := topS 52
abbrev sBent : Stmt := topS 53
abbrev sHoldsRight : Stmt := topS 54
abbrev sLaw : Stmt := topS 55
section
variable {P : Program} {w : World} {K : PySem.W.Frag} {mg : Str → Option Value} {base : Heap}
theorem scDraw : FnScope ["_law_deck_here", "_law_many", "_law_turn", "_law_cell", "_law_mixed"] ["_law_deck_here", "_law_many"] (defScope sDraw) := ⟨rfl, rfl, rfl, by decide +kernel, rfl, by decide +kernel, by decide +kernel⟩
theorem ok_draw {f : Addr} {fd : FuncData} (F : Fun K "_law_draw" "_law_draw" sDraw f fd) (T : Blt mg) : FnOk P w K mg base CX0 1 f fd ["_law_deck_here", "_law_many"] spDraw := by
  refine F.ok scDraw (fun vs H Q E h => ?_) (fun cdv A outer s H vs Q E hr h => ?_)
  · obtain ⟨_, _, _, _, _, rfl, _⟩ := h
    rfl
  · obtain ⟨H0, d, c, n, many, rfl, B, hm1, hm2, hn, q⟩ := h
    have hu := hu_of hr
    have hu64 := hr.units
    obtain ⟨⟨ns, m, t, h1, h2, hl, m0, m1, t0, t1⟩⟩ := B.dk
    refine ⟨_, (pss_cons (ps_par (i := 2) (j := 3) rfl scDraw.nd rfl rfl (by decide) rfl rfl (pa_cons (pe_op op_add (pe_dget hu (pv 0) pe_str (fun _ _ => rfl)) pe_int) (pa_cons (pe_dget hu (pv 0) pe_str (fun _ _ => rfl)) pa_nil)) (by rfl))
  (pss_cons (ps_dput hu (pv 0) pe_str (pv 2) rfl)
  (pss_cons (ps_if (pt_cmpR (op_neD hu64) (pe_dget hu (pv 0) pe_str (fun _ _ => rfl)) (pe_lst pa_nil) (nomark _))
    (pss_cons (ps_set (i := 3) scDraw.nd rfl (Or.inl rfl) (pe_callTy call_int1 (by rfl) T.b_int (by decide +kernel) (pa_cons (pe_bm0 PySem.F.plainAttrs_list PySem.F.slot_list_pop PySem.F.type_list_pop mt_pop (pe_dget hu (pv 0) pe_str (fun _ _ => rfl))) pa_nil)))
  (pss_cons (ps_if (pt_cmpR op_ge (pv 3) (pe_op op_pow pe_int pe_int) (nomark _))
    (pss_cons (ps_expr (pe_bm PySem.F.plainAttrs_list PySem.F.slot_list_append PySem.F.type_list_append mt_append (pe_dget hu (pv 0) pe_str (fun _ _ => rfl)) (pa_cons (pe_op op_fdiv (pv 3) (pv 1)) pa_nil)))
  (pss_one (ps_ret (pe_op op_mod (pv 3) (pv 1)))))
    pss_nil)
  (pss_one (ps_set (i := 3) scDraw.nd rfl (Or.inl rfl) (pe_op op_add (pv 3) (pe_dget hu (pv 0) pe_str (fun _ _ => rfl)))))))
    pss_nil)
  (pss_cons (ps_set (i := 4) scDraw.nd rfl (Or.inl rfl) (pe_op op_mod (pe_op op_mul (pe_op op_add (pe_op op_mod (pv 3) pe_int) (pe_op op_mul (pe_op op_mul pe_int (pv 2)) (pv 2))) pe_int) pe_int))
  (pss_cons (ps_set (i := 4) scDraw.nd rfl (Or.inl rfl) (pe_op op_mod (pe_op op_add (pe_op op_add (pe_op op_mul (pv 4) (pv 4)) (pe_op op_mul pe_int (pv 2))) pe_int) pe_int))
  (pss_one (ps_ret (pe_op op_mod (pe_op op_fdiv (pe_op op_mod (pe_op op_mul (pv 4) pe_int) pe_int) pe_int) (pv 1))))))))), ?_⟩
    have gT : ∀ {H : Hp} {m t : Int}, H d = some (.dK (deckL c m t)) → DGet H d (.str "turn") (some (.int t)) := fun {H m t} e => by
      have z := DGet.k (k := Sum.inr "turn") e
      rw [deck_turn] at z
      exact z
    have gM : ∀ {H : Hp} {m t : Int}, H d = some (.dK (deckL c m t)) → DGet H d (.str "mixed") (some (.int m)) := fun {H m t} e => by
      have z := DGet.k (k := Sum.inr "mixed") e
      rw [deck_mixed] at z
      exact z
    have gC : ∀ {H : Hp} {m t : Int}, H d = some (.dK (deckL c m t)) → DGet H d (.str "cells") (some (.ref c)) := fun {H m t} e => by
      have z := DGet.k (k := Sum.inr "cells") e
      rw [deck_cells] at z
      exact z
    have hdc : d ≠ c := ne_of h1 h2 (fun z => by cases z)
    refine ⟨.ref d, rfl, d, .int t, rfl, gT h1, t, 1, rfl, rfl, .ref d, rfl, d, .int m, rfl, gM h1, _, _, rfl, ?_⟩
    refine ⟨.int (t + 1), rfl, .ref d, rfl, d, _, rfl, DPut.k (k := Sum.inr "turn") h1 (show 3 < sizeLine by decide), ?_⟩
    rw [deck_put]
    have g1 : (upd H d (.dK (deckL c m (t + 1)))) d = some (.dK (deckL c m (t + 1))) := upd_same
    have g2 : (upd H d (.dK (deckL c m (t + 1)))) c = some (.lst (ns.map V.int)) := by rw [upd_ne hdc.symm]; exact h2
    have B1 : Bk H0 (upd H d (.dK (deckL c m (t + 1)))) d c (n + 1) := ⟨fun b u e => by
      rw [upd_ne (ne_of_none e B.hd)]
      exact B.same b u e, B.hd, B.hc, ⟨ns, m, t + 1, g1, g2, hl, m0, m1, by omega, by omega⟩⟩
    refine ⟨.ref d, rfl, d, .ref c, rfl, gC g1, Nat.zero_le _, fun e he => ?_⟩
    obtain ⟨e1, e2, e3⟩ := B1.newL he
    have B2 := B1.junk (o := .lst []) e3 e1 e2
    generalize hH2 : upd (upd H d (.dK (deckL c m (t + 1)))) e (.lst []) = H2 at B2 ⊢
    have k1 : H2 d = some (.dK (deckL c m (t + 1))) := by rw [← hH2, upd_ne e1.symm]; exact g1
    have k2 : H2 c = some (.lst (ns.map V.int)) := by rw [← hH2, upd_ne e2.symm]; exact g2
    have k3 : H2 e = some (.lst []) := by rw [← hH2, upd_same]
    -- the end of both ways
    have fin : ∀ (x : Int) (y : Option V) (H3 : Hp), Bk H0 H3 d c (n + 1) → tSeq (tAsg (tOp (rI (fun _ j => 0 < j) fun i j => .int (i % j)) (tOp (rI CMul fun i j => .int (i * j)) (tOp (rI0 fun i j => .int (i + j)) (tOp (rI (fun _ j => 0 < j) fun i j => .int (i % j)) (tVar 3) (tC (.int 2147483629))) (tOp (rI CMul fun i j => .int (i * j)) (tOp (rI CMul fun i j => .int (i * j)) (tC (.int 60617)) (tVar 2)) (tVar 2))) (tC (.int 40692))) (tC (.int 2147483647))) (gName 4))
        (tSeq (tAsg (tOp (rI (fun _ j => 0 < j) fun i j => .int (i % j)) (tOp (rI0 fun i j => .int (i + j)) (tOp (rI0 fun i j => .int (i + j)) (tOp (rI CMul fun i j => .int (i * j)) (tVar 4) (tVar 4)) (tOp (rI CMul fun i j => .int (i * j)) (tC (.int 69621)) (tVar 2))) (tC (.int 47))) (tC (.int 2147483579))) (gName 4))
          (tRet (tOp (rI (fun _ j => 0 < j) fun i j => .int (i % j)) (tOp (rI CDiv fun i j => .int (i / j)) (tOp (rI (fun _ j => 0 < j) fun i j => .int (i % j)) (tOp (rI CMul fun i j => .int (i * j)) (tVar 4) (tC (.int 39373))) (tC (.int 2147483549))) (tC (.int 64))) (tVar 1))))
        { nx := fun _ H' => Q .non H', rt := Q } [some (.ref d), some (.int many), some (.int (t + 1)), some (.int x), y] H3 := fun x y H3 B3 => by
      have b1 := Int.emod_nonneg x (show (2147483629 : Int) ≠ 0 by decide)
      have b2 := Int.emod_lt_of_pos x (show (0 : Int) < 2147483629 by decide)
      refine ⟨.int x, rfl, x, 2147483629, rfl, rfl, (by show (0 : Int) < 2147483629; decide), .int (t + 1), rfl, 60617, t + 1, rfl, rfl, .inl ⟨by decide, by decide⟩, .int (t + 1), rfl, _, t + 1, rfl, rfl, .inr ⟨by omega, by omega⟩, _, _, rfl, rfl, _, 40692, rfl, rfl, .inr ⟨by decide, by decide⟩, _, 2147483647, rfl, rfl, (by show (0 : Int) < 2147483647; decide), ?_⟩
      dsimp only
      generalize hz : (x % 2147483629 + 60617 * (t + 1) * (t + 1)) * 40692 % 2147483647 = z
      have c1 : 0 ≤ z := by rw [← hz]; exact Int.emod_nonneg _ (by decide)
      have c2 : z < 2147483647 := by rw [← hz]; exact Int.emod_lt_of_pos _ (by decide)
      refine ⟨.int z, rfl, .int z, rfl, z, z, rfl, rfl, .inl ⟨by omega, by omega⟩, .int (t + 1), rfl, 69621, t + 1, rfl, rfl, .inl ⟨by decide, by decide⟩, _, _, rfl, rfl, _, 47, rfl, rfl, _, 2147483579, rfl, rfl, (by show (0 : Int) < 2147483579; decide), ?_⟩
      dsimp only
      generalize hy : (z * z + 69621 * (t + 1) + 47) % 2147483579 = v
      have d1 : 0 ≤ v := by rw [← hy]; exact Int.emod_nonneg _ (by decide)
      have d2 : v < 2147483579 := by rw [← hy]; exact Int.emod_lt_of_pos _ (by decide)
      refine ⟨.int v, rfl, v, 39373, rfl, rfl, .inr ⟨by decide, by decide⟩, _, 2147483549, rfl, rfl, (by show (0 : Int) < 2147483549; decide), _, 64, rfl, rfl, ⟨by decide, by decide⟩, .int many, rfl, _, many, rfl, rfl, (by show (0 : Int) < many; omega), ?_⟩
      exact q _ H3 (Int.emod_nonneg _ (by omega)) (Int.emod_lt_of_pos _ (by omega)) B3
    refine ⟨.list (ns.map .int), .list [], .lst (.inl (.inl k2)) (dp_ints ns), .lst (.inl (.inl k3)) .nil, shaped_ints ns, shaped_ints [], _, rfl, ?_⟩
    rw [eqv_nil]
    cases hns : ns with
    | nil => exact iteF (fin m none H2 B2)
    | cons n0 r0 =>
      refine iteT ?_
      have hne : ns ≠ [] := by rw [hns]; exact List.cons_ne_nil _ _
      -- cell = int(deck["cells"].pop())
      have hlast : (ns.map V.int)[(ns.map V.int).length - 1]? = some (.int (ns.getLast hne)) := by
        rw [← List.getLast?_eq_getElem?, List.getLast?_map, List.getLast?_eq_getLast hne]
        rfl
      refine ⟨.ref d, rfl, d, .ref c, rfl, gC k1, .inl ⟨rfl, _, .inl (.inl k2)⟩, c, _, .int (ns.getLast hne), rfl, rfl, k2, hlast, .inl ⟨_, rfl, ?_⟩⟩
      generalize ns.getLast hne = x
      have hdl : (ns.map V.int).dropLast = (ns.dropLast).map V.int := by rw [List.map_dropLast]
      rw [hdl]
      have B3 : Bk H0 (upd H2 c (.lst (ns.dropLast.map V.int))) d c (n + 1) := ⟨fun b u e => by
        rw [upd_ne (ne_of_none e B.hc)]
        exact B2.same b u e, B.hd, B.hc, ⟨ns.dropLast, m, t + 1, by rw [upd_ne hdc]; exact k1, upd_same, by rw [List.length_dropLast]; omega, m0, m1, by omega, by omega⟩⟩
      have l1 : (upd H2 c (.lst (ns.dropLast.map V.int))) d = some (.dK (deckL c m (t + 1))) := by rw [upd_ne hdc]; exact k1
      have l2 : (upd H2 c (.lst (ns.dropLast.map V.int))) c = some (.lst (ns.dropLast.map V.int)) := upd_same
      generalize upd H2 c (.lst (ns.dropLast.map V.int)) = H3 at B3 l1 l2 ⊢
      refine ⟨.int x, rfl, 10, 18, rfl, rfl, ⟨by decide, by decide, by decide⟩, _, _, rfl, rfl, _, rfl, ite2 (fun _ => ?_) (fun _ => ?_)⟩
      · -- a digit of a great number
        refine ⟨.ref d, rfl, d, .ref c, rfl, gC l1, .inl ⟨rfl, _, .inl (.inl l2)⟩, .int x, rfl, .int many, rfl, x, many, rfl, rfl, ⟨by omega, by omega⟩, c, _, _, rfl, rfl, l2, ?_, ?_⟩
        · rw [List.length_map, List.length_dropLast]
          exact small1000 (by omega)
        · have e4 : ns.dropLast.map V.int ++ [.int (x / many)] = (ns.dropLast ++ [x / many]).map V.int := by rw [List.map_append]; rfl
          rw [e4]
          have hpos : 0 < ns.length := List.length_pos_iff.mpr hne
          have B4 : Bk H0 (upd H3 c (.lst ((ns.dropLast ++ [x / many]).map V.int))) d c (n + 1) := ⟨fun b u e => by
            rw [upd_ne (ne_of_none e B.hc)]
            exact B3.same b u e, B.hd, B.hc, ⟨ns.dropLast ++ [x / many], m, t + 1, by rw [upd_ne hdc]; exact l1, upd_same, by rw [List.length_append, List.length_dropLast]; simp; omega, m0, m1, by omega, by omega⟩⟩
          refine ⟨.int x, rfl, .int many, rfl, x, many, rfl, rfl, (by show (0 : Int) < many; omega), ?_⟩
          exact q _ _ (Int.emod_nonneg _ (by omega)) (Int.emod_lt_of_pos _ (by omega)) B4
      · refine ⟨.int x, rfl, .ref d, rfl, d, .int m, rfl, gM l1, x, m, rfl, rfl, ?_⟩
        exact fin (x + m) none H3 B3
theorem scPick : FnScope ["_law_deck_here", "_law_some"] ["_law_deck_here", "_law_some"] (defScope sPick) := ⟨rfl, rfl, rfl, by decide +kernel, rfl, by decide +kernel, by decide +kernel⟩
theorem ok_pick {f : Addr} {fd : FuncData} (F : Fun K "_law_pick" "_law_pick" sPick f fd) (T : Blt mg) (h_law_draw : Has P w K mg base "_law_draw" 1 ["_law_deck_here", "_law_many"] spDraw) : FnOk P w K mg base CX0 2 f fd ["_law_deck_here", "_law_some"] (spPick K) := by
  refine F.ok scPick (fun vs H Q E h => ?_) (fun cdv A outer s H vs Q E hr h => ?_)
  · obtain ⟨_, _, _, _, _, _, rfl, _⟩ := h
    rfl
  · obtain ⟨H0, d, c, a, n, xs, rfl, B, hx, x1, x2, hn, q⟩ := h
    refine ⟨_, (pss_one (ps_ret (pe_ix ix_seq (pv 1) (pe_has h_law_draw (hr.mono (by decide)) rfl (pa_cons (pv 0) (pa_cons (pe_callB call_len (by rfl) T.b_len PySem.boot_len (pa_cons (pv 1) pa_nil)) pa_nil))) (fun _ _ => rfl)))), ?_⟩
    have hx' : ∀ {H' : Hp}, Same H0 H' → SqL K H' a xs ∨ SqT K H' a xs := fun {H'} sm => hx.imp (fun z => sm.seq z) (fun z => by
      rcases z with (z | ⟨o, z⟩) | z
      · exact .inl (.inl (sm _ _ z))
      · exact .inl (.inr ⟨o, sm _ _ z⟩)
      · exact .inr z)
    have hlen : LenV K (.ref a) H xs.length := (hx' B.same).imp (fun z => ⟨xs, z, rfl⟩) (fun z => ⟨xs, z, rfl⟩)
    refine ⟨.ref a, rfl, .ref d, rfl, .ref a, rfl, .ref a, xs.length, rfl, hlen, H0, d, c, n, xs.length, rfl, B, by omega, by omega, hn, fun k H' k0 k1 B' => ?_⟩
    obtain ⟨j, rfl⟩ : ∃ j : Nat, k = (j : Int) := ⟨k.toNat, by omega⟩
    have hj : j < xs.length := by omega
    have ha : atI xs (j : Int) = some xs[j] := atI_nat (List.getElem?_eq_getElem hj)
    rcases hx' B'.same with z | z
    · exact .inl ⟨a, xs, j, xs[j], rfl, rfl, z, ha, q _ H' (List.getElem_mem hj) B'⟩
    · exact .inr (.inl ⟨a, xs, j, xs[j], rfl, rfl, z, ha, q _ H' (List.getElem_mem hj) B'⟩)
theorem cut63 (ns : List Int) : ∃ ms : List Int, cutV (ns.map V.int) none (some 63) = ms.map V.int ∧ ms.length ≤ 63 := by
  refine ⟨(ns.drop (HT.sIx ns.length 0 none)).take (HT.sIx ns.length ns.length (some 63) - HT.sIx ns.length 0 none), ?_, ?_⟩
  · unfold cutV
    rw [List.length_map, List.map_take, List.map_drop]
  · rw [List.length_take, List.length_drop, show HT.sIx ns.length ns.length (some 63) = min 63 ns.length from HT.sIx_nat ns.length ns.length 63]
    omega
theorem deck_made (c : Addr) (m : Int) : mergeK [] [((Sum.inr "cells" : Key), V.ref c), (Sum.inr "mixed", .int m), (Sum.inr "turn", .int 0)] = deckL c m 0 := by
  unfold mergeK deckL
  have h1 := n_cm
  have h2 := n_ct
  have h3 := n_mt
  simp [putK, List.foldl, h1, h2, h3]
theorem scDeck : FnScope ["_law_script", "_law_mixed", "_law_cell"] ["_law_script"] (defScope sDeck) := ⟨rfl, rfl, rfl, by decide +kernel, rfl, by decide +kernel, by decide +kernel⟩
theorem ok_deck {f : Addr} {fd : FuncData} (F : Fun K "_law_deck" "_law_deck" sDeck f fd) (T : Blt mg) : FnOk P w K mg base CX0 1 f fd ["_law_script"] (spDeck K) := by
  refine F.ok scDeck (fun vs H Q E h => ?_) (fun cdv A outer s H vs Q E hr h => ?_)
  · obtain ⟨_, _, rfl, _⟩ := h
    rfl
  · obtain ⟨a, ns, rfl, hS, q⟩ := h
    refine ⟨_, (pss_cons (ps_set (i := 1) scDeck.nd rfl (Or.inl rfl) pe_int)
  (pss_cons (ps_for PassesOwn.never rfl (pi_list (pe_slice sl_list (pv 0) po_none (po_some pe_int))) (pg_name (i := 2) scDeck.nd rfl (Or.inl rfl))
    (pss_one (ps_set (i := 1) scDeck.nd rfl (Or.inl rfl) (pe_op op_mod (pe_op op_add (pe_op op_add (pe_op op_mul (pv 1) pe_int) (pe_op op_mod (pe_callTy call_int1 (by rfl) T.b_int (by decide +kernel) (pa_cons (pv 2) pa_nil)) pe_int)) pe_int) pe_int))))
  (pss_one (ps_ret (pe_disp (pps_cons pe_str (pe_revL (pe_callTy call_list_of (by rfl) T.b_list (by decide +kernel) (pa_cons (pe_slice sl_list (pv 0) po_none (po_some pe_int)) pa_nil))) (pps_cons pe_str (pv 1) (pps_cons pe_str pe_int pps_nil))) (by rfl) (by rfl) (fun z => by cases z) (by decide)))))), ?_⟩
    obtain ⟨ms, em, lm⟩ := cut63 ns
    refine ⟨.ref a, rfl, 63, rfl, a, _, rfl, hS, fun p hp => ?_⟩
    rw [em]
    refine ⟨p, rfl, ⟨_, .inl (.inl upd_same)⟩, ?_⟩
    refine for_list (K := K) (a := p) (xs := ms.map V.int) (fun i σ H1 => ∃ (m : Int) (y : Option V), σ = [some (.ref a), some (.int m), y] ∧ 0 ≤ m ∧ m < 2 ^ 40 ∧ H1 = upd H p (.lst (ms.map V.int))) ⟨989721, none, rfl, by decide, by decide, rfl⟩ (fun i σ H1 _ ⟨_, _, _, _, _, e⟩ => by rw [e]; exact .inl (.inl upd_same)) ?_ ?_
    · rintro i x σ H1 hi ⟨m, y, rfl, m0, m1, rfl⟩
      obtain ⟨z, rfl⟩ : ∃ z, x = V.int z := by
        rw [List.getElem?_map] at hi
        cases e : ms[i]? with
        | none => rw [e] at hi; cases hi
        | some z => rw [e] at hi; exact ⟨z, (Option.some.inj hi).symm⟩
      refine ⟨.int m, rfl, m, 48271, rfl, rfl, .inr ⟨by decide, by decide⟩, .int z, rfl, .inl ⟨z, rfl, z, 2147483629, rfl, rfl, (by show (0 : Int) < 2147483629; decide), _, _, rfl, rfl, _, 47, rfl, rfl, _, 2147483587, rfl, rfl, (by show (0 : Int) < 2147483587; decide), ?_⟩⟩
      exact ⟨_, _, rfl, Int.emod_nonneg _ (by decide), Int.lt_trans (Int.emod_lt_of_pos _ (by decide)) (by decide), rfl⟩
    · rintro σ H1 ⟨m, y, rfl, m0, m1, rfl⟩
      intro d hd
      have dp : d ≠ p := fun e => by rw [e, upd_same] at hd; cases hd
      have S1 : Same H (upd H p (.lst (ms.map V.int))) := same_upd hp
      have hd0 : H d = none := S1.free hd
      have S2 := S1.trans (same_upd (o := .dK []) hd)
      refine ⟨.ref a, rfl, 63, rfl, a, _, rfl, S2.seq hS, fun p2 hp2 => ?_⟩
      rw [em]
      have S3 := S2.trans (same_upd (o := .lst (ms.map V.int)) hp2)
      refine ⟨p2, _, rfl, .inl (.inl (.inl upd_same)), fun p3 hp3 => ?_⟩
      have S4 := S3.trans (same_upd (o := .lst (ms.map V.int)) hp3)
      refine ⟨p3, _, rfl, .inl (.inl upd_same), fun c hc => ?_⟩
      have S5 := S4.trans (same_upd (o := .lst (ms.map V.int).reverse) hc)
      have ne : ∀ {H : Hp} {x y : Addr} {o : HO}, (upd H x o) y = none → x ≠ y := fun {H x y o} h e => by rw [e, upd_same] at h; cases h
      have d2 : p2 ≠ d := (ne hp2).symm
      have nd3 : d ≠ p3 := fun e => by
        rw [← e, upd_ne d2.symm, upd_same] at hp3
        cases hp3
      have nd4 : d ≠ c := fun e => by
        rw [← e, upd_ne nd3, upd_ne d2.symm, upd_same] at hc
        cases hc
      refine ⟨.int m, rfl, ?_, [(Sum.inr "cells", .ref c), (Sum.inr "mixed", .int m), (Sum.inr "turn", .int 0)], rfl, (show 3 ≤ 15 by decide), ?_⟩
      · rw [upd_ne nd4, upd_ne nd3, upd_ne d2.symm, upd_same]
      · rw [deck_made]
        have hcf : H c = none := S4.free hc
        refine q d c _ ⟨fun b u e => ?_, hd0, hcf, ⟨ms.reverse, m, 0, upd_same, ?_, by rw [List.length_reverse]; exact lm, m0, m1, Int.le_refl _, Int.le_refl _⟩⟩
        · rw [upd_ne (ne_of_none e hd0)]
          exact S5 b u e
        · rw [upd_ne nd4.symm, upd_same, List.map_reverse]
end
end K24

namespace K24
open PySem PySem.Spec L2 KS GL LB K24m
open PyProof.Rows hiding cnt
section
variable {P : Program} {w : World} {K : PySem.W.Frag} {mg : Str → Option Value} {base : Heap}
def spEnd (K : PySem.W.Frag) : Sp := fun vs H Q _ => ∃ (a : Addr) (rs : List (Addr × Row)), vs = [.ref a] ∧ SqQ K H a (rowRefs rs) ∧ RowsAt K H rs ∧ rs.length ≤ 76 ∧
  ∀ (p : Addr) (kvs : List (Key × V)) (H' : Hp), Same H H' → H' p = some (.dK kvs) → (kvs ≠ [] ↔ Cyc (edges (rs.map (·.2)))) → Q (.ref p) H'
theorem scEndless : FnScope ["arrows", "many", "befores", "source", "label", "target", "waiting", "here", "state", "left"] ["arrows"] (defScope sEndless) := ⟨rfl, rfl, rfl, by decide +kernel, rfl, by decide +kernel, by decide +kernel⟩
theorem len_mf {E : Edges} {g : Int → Int} {kvs : List (Key × V)} (d : DM kvs (mf E g)) : kvs.length ≤ E.length := by
  have := d.size (l := E.map (·.1)) fun s hs => by
    unfold mf at hs
    split at hs
    · exact absurd rfl hs
    · rename_i h
      have : ¬ ∀ t, (s, t) ∈ E → t ∈ [] := fun z => h (cnt_zero.mpr z)
      refine Classical.byContradiction fun no => this fun t ht => absurd (List.mem_map.mpr ⟨(s, t), ht, rfl⟩) no
  rwa [List.length_map] at this
theorem len_bf {E : Edges} {pt : Int → Addr} {kvs : List (Key × V)} (d : DM kvs (bf E pt)) : kvs.length ≤ E.length := by
  have := d.size (l := E.map (·.2)) fun s hs => by
    unfold bf at hs
    split at hs
    · exact absurd rfl hs
    · rename_i h
      refine Classical.byContradiction fun no => h (befs_nil.mpr fun t ht => no (List.mem_map.mpr ⟨(t, s), ht, rfl⟩))
  rwa [List.length_map] at this
theorem ok_endless {f : Addr} {fd : FuncData} (F : Fun K "endless_states" "endless_states" sEndless f fd) (gE : ∃ u, mg nENDl = some u ∧ RelV (.int (-1)) u) : FnOk P w K mg base CX0 1 f fd ["arrows"] (spEnd K) := by
  refine F.ok scEndless (fun vs H Q E h => ?_) (fun cdv A outer s H vs Q E hr h => ?_)
  · obtain ⟨_, _, rfl, _⟩ := h
    rfl
  · obtain ⟨a, rs, rfl, hS, hR, hlen, q⟩ := h
    have hu := hu_of hr
    have hu64 := hr.units
    obtain ⟨uE, gE1, gE2⟩ := gE
    have M : True := trivial
    refine ⟨_, (pss_cons (ps_asg (pe_tup (pa_cons pe_dnewK (pa_cons pe_dnewK pa_nil))) (pg_tup rfl (pgs_cons (pg_name (i := 1) scEndless.nd rfl (Or.inr rfl)) (pgs_cons (pg_name (i := 2) scEndless.nd rfl (Or.inl rfl)) pgs_nil))))
  (pss_cons (ps_for PassesOwn.never rfl (pi_seq (pv 0)) (pg_tup rfl (pgs_cons (pg_name (i := 3) scEndless.nd rfl (Or.inl rfl)) (pgs_cons (pg_name (i := 4) scEndless.nd rfl (Or.inl rfl)) (pgs_cons (pg_name (i := 5) scEndless.nd rfl (Or.inl rfl)) pgs_nil))))
    (pss_one (ps_if (pt_cmpR op_ne (pv 5) (pe_glob rfl gE1 gE2) (nomark _))
    (pss_cons (ps_dput hu (pv 1) (pv 3) (pe_op op_add (pe_dget2 hu (pv 1) (pv 3) pe_int ⟨rfl, rfl, rfl, rfl⟩) pe_int) rfl)
  (pss_one (ps_expr (pe_bm PySem.F.plainAttrs_list PySem.F.slot_list_append PySem.F.type_list_append mt_append (pe_dsetd (pv 2) (pv 5) (pe_lst pa_nil) ⟨rfl, rfl, rfl, rfl⟩) (pa_cons (pv 3) pa_nil)))))
    pss_nil)))
  (pss_cons (ps_lock (ps_setLc (i := 6) (own := [("target", 5)]) (g := gName 5) rfl scEndless.nd rfl rfl (sw_true rfl rfl rfl (by decide +kernel)) (pi_keys (pv 2)) (blkOk_by (own := [("target", 5)]) (N := ["arrows", "many", "befores", "source", "label", "target", "waiting", "here", "state", "left"]) (sc := defScope sEndless) (by decide +kernel)) (fun _ _ _ _ _ => (pg_name (i := 5) scEndless.nd rfl (Or.inl rfl))) (fun _ _ _ _ _ => pts_one (pt_cmp (pc_dnotin hu (pv 5) (pv 1)))) (fun _ _ _ _ _ => (pv 5))))
  (pss_cons (ps_while PassesOwn.never (pt_cmpR (op_neD hu64) (pv 6) (pe_lst pa_nil) (nomark _))
    (pss_cons (ps_set (i := 7) scEndless.nd rfl (Or.inl rfl) (pe_bm0 PySem.F.plainAttrs_list PySem.F.slot_list_pop PySem.F.type_list_pop mt_pop (pv 6)))
  (pss_one (ps_for PassesOwn.never rfl (pi_list (pe_dget2 hu (pv 2) (pv 7) (pe_lst pa_nil) ⟨rfl, rfl, rfl, rfl⟩)) (pg_name (i := 3) scEndless.nd rfl (Or.inl rfl))
    (pss_cons (ps_daug hu (pv 1) (pv 3) pe_int in_sub (fun _ _ _ => rfl))
  (pss_one (ps_if (pt_cmpR op_eq (pe_dget hu (pv 1) (pv 3) (fun _ _ => rfl)) pe_int (nomark _))
    (pss_one (ps_expr (pe_bm PySem.F.plainAttrs_list PySem.F.slot_list_append PySem.F.type_list_append mt_append (pv 6) (pa_cons (pv 3) pa_nil))))
    pss_nil)))))))
  (pss_one (ps_ret (pe_lock (pe_dc (own := [("state", 8), ("left", 9)]) (g := gTup K 2 (gCons (gName 8) (gCons (gName 9) gNil))) rfl scEndless.nd (pi_items (pv 1)) (blkOk_by (own := [("state", 8), ("left", 9)]) (N := ["arrows", "many", "befores", "source", "label", "target", "waiting", "here", "state", "left"]) (sc := defScope sEndless) (by decide +kernel)) (fun _ _ _ _ _ => (pg_tup rfl (pgs_cons (pg_name (i := 8) scEndless.nd rfl (Or.inl rfl)) (pgs_cons (pg_name (i := 9) scEndless.nd rfl (Or.inl rfl)) pgs_nil)))) (fun _ _ _ _ _ => pts_one (pt_cmpR op_gt (pv 9) pe_int (nomark _))) (fun _ _ _ _ _ => (pv 8)) (fun _ _ _ _ _ => pe_bl))))))))), ?_⟩
    refine fun M hM B hB => ⟨(show 2 ≤ sizeLine by decide), fun t ht => ⟨t, _, rfl, .inl (.inl upd_same), rfl, _, _, rfl, _, _, rfl, rfl, ?_⟩⟩
    have MB : M ≠ B := fun e => by rw [← e, upd_same] at hB; cases hB
    have E0 : ES H (upd (upd H M (.dK [])) B (.dK [])) M B [] (mf [] fun s => cnt [] [] s) (fun _ => 0) := by
      refine ⟨(same_upd hM).trans (same_upd hB), hM, (same_upd hM).free hB, MB, fun t ht => absurd rfl ht, ⟨[], by rw [upd_ne MB, upd_same], DM.nil⟩, ⟨[], upd_same, DM.nil⟩, fun t ht => absurd rfl ht, fun t _ ht => absurd rfl ht⟩
    have E1 := E0.junk (o := .tup [.ref M, .ref B]) ht
    refine for_seq (te := tVar 0) (fun Q h => ⟨.ref a, rfl, h⟩) hS E1.same (fun i σ H1 => ∃ (pt : Int → Addr) (y3 y4 y5 : Option V), σ = [some (.ref a), some (.ref M), some (.ref B), y3, y4, y5, none, none, none, none] ∧
        ES H H1 M B (edges ((rs.map (·.2)).take i)) (mf (edges ((rs.map (·.2)).take i)) fun s => cnt (edges ((rs.map (·.2)).take i)) [] s) pt) ⟨_, none, none, none, rfl, E1⟩ (fun i σ H1 _ ⟨_, _, _, _, _, e⟩ => e.same) ?_ ?_
    · rintro i x σ H1 hx ⟨pt, y3, y4, y5, rfl, e⟩
      have hi : i < rs.length := by
        have := (List.getElem?_eq_some_iff.mp hx).1
        rwa [rowRefs_len] at this
      obtain rfl : V.ref rs[i].1 = x := by
        unfold rowRefs at hx
        rw [List.getElem?_map, List.getElem?_eq_getElem hi] at hx
        exact Option.some.inj hx
      have hrow : SqT K H1 rs[i].1 (rowV rs[i].2) := sameT e.same (hR rs[i] (List.getElem_mem hi))
      have htk : (rs.map (·.2)).take (i + 1) = (rs.map (·.2)).take i ++ [rs[i].2] := by
        rw [List.take_succ, List.getElem?_map, List.getElem?_eq_getElem hi]
        rfl
      have hes := edges_snoc rs[i].2 ((rs.map (·.2)).take i)
      rw [← htk] at hes
      have hEl : (edges ((rs.map (·.2)).take i)).length ≤ 76 := by
        have h1 := edges_len ((rs.map (·.2)).take i)
        have h2 : ((rs.map (·.2)).take i).length ≤ (rs.map (·.2)).length := List.length_take_le' _ _
        rw [List.length_map] at h2
        omega
      rw [hes]
      generalize edges ((rs.map (·.2)).take i) = E at e hEl
      generalize rs[i].1 = p at hrow
      generalize rs[i].2 = r at hrow
      obtain ⟨s, lb, tg⟩ := r
      refine ⟨p, _, rfl, hrow, rfl, _, _, rfl, _, _, rfl, _, _, rfl, rfl, ?_⟩
      dsimp only
      refine ⟨.int tg, rfl, rfl, _, rfl, ite2 (fun h1 => ?_) (fun h1 => ?_)⟩
      · have htg : ¬ tg = -1 := fun z => by subst z; simp at h1
        simp only [htg, if_false]
        obtain ⟨kvs, k1, d1⟩ := e.m
        have hk := len_mf d1
        have hg : ((mf E fun s => cnt E [] s) s).getD (.int 0) = .int (cnt E [] s) := by
          unfold mf
          split
          · rename_i h0; rw [h0]; rfl
          · rfl
        refine ⟨.ref M, rfl, M, rfl, .inl ⟨kvs, .inl k1⟩, .int s, rfl, (mf E fun s => cnt E [] s) s, (by rw [← d1.val s]; exact DGet.k (k := (Sum.inl s : Key)) k1), cnt E [] s, 1, hg, rfl, ?_⟩
        refine ⟨.ref M, rfl, .int s, rfl, M, _, rfl, .inl ⟨kvs, Sum.inl s, k1, rfl, small1000 (by omega), rfl⟩, ?_⟩
        have e2 := e.many (d1.put s (.int ((cnt E [] s : Nat) + 1)))
        have hf : ∀ x, (fun x => if x = s then some (V.int ((cnt E [] s : Nat) + 1)) else mf E (fun s => cnt E [] s) x) x = mf (E ++ [(s, tg)]) (fun x => cnt (E ++ [(s, tg)]) [] x) x := fun x => by
          unfold mf
          simp only [cnt_add]
          by_cases h : x = s
          · subst h
            simp
          · simp [h]
        rw [show (fun x => if x = s then some (V.int ((cnt E [] s : Nat) + 1)) else mf E (fun s => cnt E [] s) x) = _ from funext hf] at e2
        generalize upd H1 M (.dK (putK kvs (Sum.inl s) (.int ((cnt E [] s : Nat) + 1)))) = H2 at e2
        obtain ⟨kv2, k2, d2⟩ := e2.b
        have hk2 := len_bf d2
        refine ⟨.ref B, rfl, B, rfl, .inl ⟨kv2, .inl k2⟩, .int tg, rfl, Nat.zero_le _, fun l hl => ?_⟩
        have Bl : B ≠ l := ne_of_none k2 hl
        refine ⟨kv2, Sum.inl tg, by rw [upd_ne Bl]; exact k2, rfl, small1000 (by omega), fun v hv => ?_, fun hn => ?_⟩
        · rw [d2.val tg] at hv
          have hb : befs E tg ≠ [] := fun z => by unfold bf at hv; rw [if_pos z] at hv; cases hv
          obtain rfl : V.ref (pt tg) = v := by unfold bf at hv; rw [if_neg hb] at hv; exact Option.some.inj hv
          have e3 := e2.junk (o := .lst []) hl
          have k3 := e3.l tg hb
          have hbl := befs_le E tg
          refine ⟨.inl ⟨rfl, _, .inl (.inl k3)⟩, .int s, rfl, pt tg, _, .int s, rfl, rfl, k3, (by rw [List.length_map]; exact small1000 (by omega)), ?_⟩
          exact ⟨pt, _, _, _, rfl, e3.old hb upd_same fun a ha => upd_ne ha⟩
        · rw [d2.val tg] at hn
          have hb : befs E tg = [] := Classical.byContradiction fun z => by unfold bf at hn; rw [if_neg z] at hn; cases hn
          have k3 : (upd (upd H2 l (.lst [])) B (.dK (putK kv2 (Sum.inl tg) (.ref l)))) l = some (.lst []) := by rw [upd_ne Bl.symm, upd_same]
          refine ⟨.inl ⟨rfl, _, .inl (.inl k3)⟩, .int s, rfl, l, _, .int s, rfl, rfl, k3, (show 0 < sizeLine by decide), ?_⟩
          refine ⟨_, _, _, _, rfl, e2.new hb hl (d2.put tg (.ref l)) (by rw [upd_ne Bl, upd_same]) upd_same fun a h1 h2 => by rw [upd_ne h2, upd_ne h1, upd_ne h2]⟩
      · have htg : tg = -1 := Classical.byContradiction fun z => h1 (by simpa using z)
        simp only [htg, if_true, List.append_nil]
        exact ⟨pt, _, _, _, rfl, e⟩
    · rintro σ H1 ⟨pt, y3, y4, y5, rfl, e⟩
      rw [rowRefs_len, ← List.length_map (f := (·.2)) (as := rs), List.take_length] at e
      have hEl : (edges (rs.map (·.2))).length ≤ 76 := by
        have h1 := edges_len (rs.map (·.2))
        rw [List.length_map] at h1
        omega
      generalize edges (rs.map (·.2)) = E at e hEl q
      obtain ⟨kv2, k2, d2⟩ := e.b
      obtain ⟨kvs, k1, d1⟩ := e.m
      have hk2 := len_bf d2
      refine ⟨B, .dK kv2, k2, trivial, fun od => ⟨.ref B, rfl, B, od, rfl, .inl ⟨kv2, upd_same, fun D hD => ?_⟩⟩⟩
      have DB : D ≠ B := fun z => by rw [z, upd_same] at hD; cases hD
      rw [upd_ne DB] at hD
      obtain ⟨D1, D2, D3, D4⟩ := e.free hD
      refine lc_it walk_keys (fun i H' => H' = upd (upd H1 B (.frz od (.dK kv2))) D (.lst ((((kv2.map fun p => keyI p.1).take i).filter fun z => decide (cnt E [] z = 0)).map V.int))) rfl (fun i H' _ h => by rw [h, upd_ne DB.symm, upd_same]) ?_ ?_
      · rintro i x H2 H2' hi rfl ⟨rfl, k, v, hkv, rfl⟩
        obtain ⟨z, hz⟩ := d2.isI _ (List.mem_of_getElem? hkv)
        dsimp only at hz
        subst hz
        have htk : (kv2.map fun p => keyI p.1).take (i + 1) = (kv2.map fun p => keyI p.1).take i ++ [z] := by
          rw [List.take_succ, List.getElem?_map, hkv]
          rfl
        rw [htk, List.filter_append, List.map_append]
        have hM : (upd (upd H1 B (.frz od (.dK kv2))) D (.lst ((((kv2.map fun p => keyI p.1).take i).filter fun z => decide (cnt E [] z = 0)).map V.int))) M = some (.dK kvs) := by rw [upd_ne D2.symm, upd_ne e.ne]; exact k1
        have hlen : (((kv2.map fun p => keyI p.1).take i).filter fun z => decide (cnt E [] z = 0)).length < sizeLine := by
          have h1 := List.length_filter_le (fun z => decide (cnt E [] z = 0)) ((kv2.map fun p => keyI p.1).take i)
          have h2 := List.length_take_le i (kv2.map fun p => keyI p.1)
          exact small1000 (by omega)
        generalize (((kv2.map fun p => keyI p.1).take i).filter fun z => decide (cnt E [] z = 0)) = acc at hM hlen
        refine ⟨rfl, .int z, rfl, .ref M, rfl, M, (mf E fun s => cnt E [] s) z, rfl, (by rw [← d1.val z]; exact DGet.k (k := (Sum.inl z : Key)) hM), _, rfl, ite2 (fun h1 => ?_) (fun h1 => ?_)⟩
        · have h0 : cnt E [] z = 0 := Classical.byContradiction fun n => by unfold mf at h1; rw [if_neg n] at h1; cases h1
          refine ⟨.int z, rfl, _, upd_same, by rw [List.length_map]; exact hlen, ?_⟩
          rw [upd_upd]
          simp [List.filter_cons, h0]
        · have h0 : ¬ cnt E [] z = 0 := fun n => h1 (by unfold mf; rw [if_pos n]; rfl)
          simp [List.filter_cons, h0]
      · rintro H2 rfl
        have hW0 : ((kv2.map fun p => keyI p.1).take kv2.length) = kv2.map fun p => keyI p.1 := by
          rw [← List.length_map (f := fun p : Key × V => keyI p.1) (as := kv2), List.take_length]
        rw [hW0]
        have K0 : Kahn E [] ((kv2.map fun p => keyI p.1).filter fun z => decide (cnt E [] z = 0)) := by
          refine Kahn.init (d2.keysI.1.filter _) fun y => ?_
          rw [List.mem_filter, d2.keysI.2 y, decide_eq_true_eq, cnt_zero]
          refine and_congr ⟨fun h => ?_, fun ⟨s, hs⟩ h => ?_⟩ ⟨fun h t ht => (nomatch h t ht), fun h t ht => absurd ht (h t)⟩
          · refine Classical.byContradiction fun no => h ?_
            unfold bf
            rw [if_pos (befs_nil.mpr fun s hs => no ⟨s, hs⟩)]
          · unfold bf at h
            rw [if_neg fun z => (befs_nil.mp z) s hs] at h
            cases h
        generalize ((kv2.map fun p => keyI p.1).filter fun z => decide (cnt E [] z = 0)) = W0 at K0
        refine ⟨by rw [upd_ne DB.symm, upd_same], ?_⟩
        have e3 : ES H (upd (upd (upd H1 B (.frz od (.dK kv2))) D (.lst (W0.map V.int))) B (.dK kv2)) M B E (mf E fun s => cnt E [] s) pt := e.other D1 D2 D3 D4 fun a ha => by
          by_cases hb : a = B
          · rw [hb, upd_same, k2]
          · rw [upd_ne hb, upd_ne ha, upd_ne hb]
        have c3 : (upd (upd (upd H1 B (.frz od (.dK kv2))) D (.lst (W0.map V.int))) B (.dK kv2)) D = some (.lst (W0.map V.int)) := by rw [upd_ne DB, upd_same]
        generalize (upd (upd (upd H1 B (.frz od (.dK kv2))) D (.lst (W0.map V.int))) B (.dK kv2)) = H3 at e3 c3
        clear e k1 d1 k2 d2 hk2 E1 E0 hD
        refine ⟨fun m σ H4 => ∃ (P W : List Int) (y3 y4 y5 y7 : Option V), σ = [some (.ref a), some (.ref M), some (.ref B), y3, y4, y5, some (.ref D), y7, none, none] ∧ m = 2 * E.length - P.length ∧ Kahn E P W ∧
          ES H H4 M B E (mf E fun s => cnt E P s) pt ∧ H4 D = some (.lst (W.map V.int)), ⟨_, [], W0, y3, y4, y5, none, rfl, rfl, K0, e3, c3⟩, ?_⟩
        rintro m σ H4 ⟨P, W, y3, y4, y5, y7, rfl, rfl, kn, e, c4⟩
        have hPW : P.length + W.length ≤ 2 * E.length := by
          have := nodup_le (m := E.map (·.1) ++ E.map (·.2)) kn.nd fun x hx => by
            rcases kn.tgt x hx with ⟨s, hs⟩ | ⟨t, ht⟩
            · exact List.mem_append_right _ (List.mem_map.mpr ⟨_, hs, rfl⟩)
            · exact List.mem_append_left _ (List.mem_map.mpr ⟨_, ht, rfl⟩)
          simp at this
          omega
        refine ⟨.ref D, rfl, Nat.zero_le _, fun y hy => ?_⟩
        have Dy : D ≠ y := ne_of_none c4 hy
        have e5 := e.junk (o := .lst []) hy
        have c5 : (upd H4 y (.lst [])) D = some (.lst (W.map V.int)) := by rw [upd_ne Dy]; exact c4
        refine ⟨_, _, .lst (.inl (.inl c5)) (dp_ints W), .lst (.inl (.inl upd_same)) .nil, shaped_ints W, shaped_nil, _, rfl, ?_⟩
        rw [eqv_nil]
        generalize upd H4 y (.lst []) = H5 at e5 c5
        clear e c4
        rcases List.eq_nil_or_concat W with rfl | ⟨W', h, rfl⟩
        · refine iteF ?_
          obtain ⟨kvs, k1, d1⟩ := e5.m
          have hk := len_mf d1
          refine ⟨M, .dK kvs, k1, trivial, fun od => ⟨.ref M, rfl, M, od, kvs, rfl, upd_same, fun D2' hD2 => ?_⟩⟩
          have DM' : D2' ≠ M := fun z => by rw [z, upd_same] at hD2; cases hD2
          refine dc_it walk_items (fun i H' => H' M = some (.frz od (.dK kvs)) ∧ Same H H' ∧ H D2' = none ∧ ∃ kd, H' D2' = some (.dK kd) ∧ kd.length ≤ i ∧ (kd ≠ [] ↔ ∃ p ∈ kvs.take i, ∃ n : Int, p.2 = .int n ∧ 0 < n)) ?_ (fun i H' _ h => h.1) ?_ ?_
          · rw [upd_ne DM'] at hD2
            refine ⟨by rw [upd_ne DM'.symm, upd_same], ?_, e5.same.free hD2, [], upd_same, Nat.zero_le _, by simp⟩
            refine fun b u hb => ?_
            rw [upd_ne (ne_of_none hb (e5.same.free hD2)), upd_ne (ne_of_none hb e5.fm)]
            exact e5.same b u hb
          · rintro i x H6 H7 hi ⟨g1, g2, g3, kd, g4, g5, g6⟩ ⟨T, u, v, rfl, hT, rfl, hu', hv'⟩
            have ekv : kvs[i]? = some kvs[i] := List.getElem?_eq_getElem hi
            dsimp only at hu' hv'
            rw [ekv] at hu' hv'
            obtain rfl := Option.some.inj hu'
            obtain rfl := Option.some.inj hv'
            have hmem : kvs[i] ∈ kvs := List.getElem_mem hi
            have htk : kvs.take (i + 1) = kvs.take i ++ [kvs[i]] := by rw [List.take_succ, ekv]; rfl
            rw [htk]
            generalize kvs[i] = p at hmem
            obtain ⟨k, v⟩ := p
            obtain ⟨s, hs⟩ := d1.isI _ hmem
            dsimp only at hs
            subst hs
            have hv := d1.mem.mp hmem
            obtain ⟨n, rfl⟩ : ∃ n : Int, v = .int n := by
              unfold mf at hv
              split at hv
              · cases hv
              · exact ⟨_, (Option.some.inj hv).symm⟩
            have TM : M ≠ T := ne_of_none g1 hT
            have TD : D2' ≠ T := ne_of_none g4 hT
            refine ⟨T, _, rfl, .inl (.inl upd_same), rfl, _, _, rfl, _, _, rfl, rfl, rfl, .int n, rfl, n, 0, rfl, rfl, _, rfl, ite2 (fun h1 => ?_) (fun h1 => ?_)⟩
            · have hn : 0 < n := of_decide_eq_true h1
              refine ⟨.int s, rfl, kd, Sum.inl s, rfl, by rw [upd_ne TD]; exact g4, small1000 (by omega), by rw [upd_ne DM'.symm, upd_ne TM]; exact g1, ?_, g3, _, upd_same, ?_, ?_⟩
              · refine fun b u hb => ?_
                rw [upd_ne (ne_of_none hb g3), upd_ne (ne_of_none (g2 b u hb) hT)]
                exact g2 b u hb
              · have := length_putK kd (Sum.inl s : Key) (.bl true)
                omega
              · refine ⟨fun _ => ⟨_, List.mem_append_right _ (List.mem_singleton.mpr rfl), n, rfl, hn⟩, fun _ hnil => ?_⟩
                have := valV_put kd (Sum.inl s : Key) (Sum.inl s) (.bl true)
                rw [hnil, if_pos rfl] at this
                cases this
            · have hn : ¬ 0 < n := fun z => h1 (decide_eq_true z)
              refine ⟨by rw [upd_ne TM]; exact g1, ?_, g3, kd, by rw [upd_ne TD]; exact g4, by omega, ?_⟩
              · exact g2.trans (same_upd hT)
              · rw [g6]
                constructor
                · rintro ⟨p, hp, r⟩
                  exact ⟨p, List.mem_append_left _ hp, r⟩
                · rintro ⟨p, hp, n', hn', hpos⟩
                  rcases List.mem_append.mp hp with z | z
                  · exact ⟨p, z, n', hn', hpos⟩
                  · rw [List.mem_singleton.mp z] at hn'
                    dsimp only at hn'
                    injection hn' with hn'
                    omega
          · rintro H6 ⟨g1, g2, g3, kd, g4, g5, g6⟩
            refine ⟨g1, q D2' kd _ ?_ (by rw [upd_ne DM']; exact g4) ?_⟩
            · refine fun b u hb => ?_
              rw [upd_ne (ne_of_none hb e5.fm)]
              exact g2 b u hb
            · rw [g6, List.take_length, ← kn.fin]
              constructor
              · rintro ⟨⟨k, v⟩, hp, n, hn, hpos⟩
                obtain ⟨s, hs⟩ := d1.isI _ hp
                dsimp only at hs hn
                subst hs hn
                have hv := d1.mem.mp hp
                refine ⟨s, fun z => ?_⟩
                unfold mf at hv
                split at hv
                · cases hv
                · have := Option.some.inj hv
                  injection this with this
                  have this : ((cnt E P s : Nat) : Int) = n := this
                  omega
              · rintro ⟨s, hs⟩
                have h0 : ¬ cnt E [] s = 0 := fun z => hs (cnt_zero.mpr fun t ht => (nomatch cnt_zero.mp z t ht))
                refine ⟨(Sum.inl s, .int (cnt E P s)), d1.mem.mpr ?_, _, rfl, by omega⟩
                unfold mf
                rw [if_neg h0]
        · simp only [List.concat_eq_append] at c5 kn hPW ⊢
          rw [show ((W' ++ [h]).isEmpty) = false by cases W' <;> rfl]
          refine iteT ?_
          refine ⟨fun σ H4 => ∃ m', m' < 2 * E.length - P.length ∧ ∃ (P W : List Int) (y3 y4 y5 y7 : Option V), σ = [some (.ref a), some (.ref M), some (.ref B), y3, y4, y5, some (.ref D), y7, none, none] ∧ m' = 2 * E.length - P.length ∧ Kahn E P W ∧
            ES H H4 M B E (mf E fun s => cnt E P s) pt ∧ H4 D = some (.lst (W.map V.int)), fun _ _ h => h, ?_⟩
          have hp := kn.here
          have hcs : ∀ s, cnt E (P ++ [h]) s + (befs E h).count s = cnt E P s := fun s => cnt_snoc hp E
          rw [List.length_append, List.length_singleton] at hPW
          refine ⟨.ref D, rfl, .inl ⟨rfl, _, .inl (.inl c5)⟩, D, _, .int h, rfl, rfl, c5, by simp, ?_⟩
          have e6 := e5.other (H' := upd H5 D (.lst (((W' ++ [h]).map V.int).dropLast))) D1 D2 D3 D4 fun a ha => upd_ne ha
          have c6 : (upd H5 D (.lst (((W' ++ [h]).map V.int).dropLast))) D = some (.lst (W'.map V.int)) := by
            rw [upd_same, List.map_append]
            simp
          generalize (upd H5 D (.lst (((W' ++ [h]).map V.int).dropLast))) = H6 at e6 c6
          clear e5 c5
          obtain ⟨kv2, k2, d2⟩ := e6.b
          refine ⟨.ref B, rfl, B, rfl, .inl ⟨kv2, .inl k2⟩, .int h, rfl, Nat.zero_le _, fun l hl => ?_⟩
          have Bl : B ≠ l := ne_of_none k2 hl
          have Dl : D ≠ l := ne_of_none c6 hl
          have e7 := e6.junk (o := .lst []) hl
          obtain ⟨lf1, lf2, lf3, lf4⟩ := e6.free hl
          refine ⟨bf E pt h, (by rw [← d2.val h]; exact DGet.k (k := (Sum.inl h : Key)) (by rw [upd_ne Bl]; exact k2)), ?_⟩
          obtain ⟨L, hL, cL, LM, LD⟩ : ∃ L, (bf E pt h).getD (.ref l) = .ref L ∧ (upd H6 l (.lst [])) L = some (.lst ((befs E h).map V.int)) ∧ L ≠ M ∧ L ≠ D := by
            unfold bf
            by_cases hb : befs E h = []
            · exact ⟨l, by rw [if_pos hb]; rfl, by rw [upd_same, hb]; rfl, lf2, Dl.symm⟩
            · exact ⟨pt h, by rw [if_neg hb]; rfl, e7.l h hb, e7.neM hb, (D4 h hb).symm⟩
          rw [hL]
          have c7 : (upd H6 l (.lst [])) D = some (.lst (W'.map V.int)) := by rw [upd_ne Dl]; exact c6
          generalize upd H6 l (.lst []) = H7 at e7 cL c7
          clear e6 c6 k2 d2 hl
          have hbl := befs_le E h
          refine ⟨L, rfl, ⟨_, .inl (.inl cL)⟩, for_list (xs := (befs E h).map V.int) (fun j σ H8 => ∃ (Z : List Int) (y3 y4 y5 : Option V), σ = [some (.ref a), some (.ref M), some (.ref B), y3, y4, y5, some (.ref D), some (.int h), none, none] ∧
              ES H H8 M B E (mf E fun s => (cnt E P s : Int) - (((befs E h).take j).count s : Nat)) pt ∧ H8 D = some (.lst ((W' ++ Z).map V.int)) ∧ H8 L = some (.lst ((befs E h).map V.int)) ∧ Z.Nodup ∧ ∀ z, z ∈ Z ↔ z ∈ (befs E h).take j ∧ cnt E P z = ((befs E h).take j).count z)
            ⟨[], y3, y4, y5, rfl, ?_, by rw [List.append_nil]; exact c7, cL, List.nodup_nil, fun z => by simp⟩ (fun j σ H8 _ ⟨_, _, _, _, _, _, _, c, _⟩ => .inl (.inl c)) ?_ ?_⟩
          · have : (fun s => (cnt E P s : Int) - ((((befs E h).take 0).count s : Nat) : Int)) = fun s => ((cnt E P s : Nat) : Int) := by
              funext s
              simp
            rw [this]
            exact e7
          · rintro j x σ H8 hx ⟨Z, y3, y4, y5, rfl, e8, c8, cL8, zn, zm⟩
            have hj : j < (befs E h).length := by
              have := (List.getElem?_eq_some_iff.mp hx).1
              rwa [List.length_map] at this
            have hgj : (befs E h)[j]? = some (befs E h)[j] := List.getElem?_eq_getElem hj
            obtain rfl : V.int (befs E h)[j] = x := by
              rw [List.getElem?_map, hgj] at hx
              exact Option.some.inj hx
            have hs : (befs E h)[j] ∈ befs E h := List.getElem_mem hj
            have htk : (befs E h).take (j + 1) = (befs E h).take j ++ [(befs E h)[j]] := by rw [List.take_succ, hgj]; rfl
            have hcj : ∀ z, ((befs E h).take (j + 1)).count z ≤ (befs E h).count z := fun z => (List.take_sublist _ _).count_le z
            rw [htk] at hcj
            rw [htk]
            have hzl : Z.length ≤ E.length := by
              have := nodup_le zn fun z hz => List.mem_of_mem_take ((zm z).mp hz).1
              omega
            generalize (befs E h)[j] = s at hs hcj
            generalize (befs E h).take j = bs at hcj zm e8
            have hsE := mem_befs.mp hs
            have hs0 : ¬ cnt E [] s = 0 := fun z => (nomatch cnt_zero.mp z h hsE)
            have hcs1 : bs.count s + 1 ≤ cnt E P s := by
              have h1 := hcj s
              have h2 := hcs s
              rw [List.count_append] at h1
              simp at h1
              omega
            obtain ⟨kvs, k1, d1⟩ := e8.m
            have hk := len_mf d1
            refine ⟨.ref M, rfl, .int s, rfl, M, .int ((cnt E P s : Int) - (bs.count s : Nat)), rfl, ?_, _, 1, rfl, rfl, _, .inl ⟨kvs, Sum.inl s, k1, rfl, small1000 (by omega), rfl⟩, ?_⟩
            · have := DGet.k (k := (Sum.inl s : Key)) k1
              rw [d1.val s] at this
              unfold mf at this
              rw [if_neg hs0] at this
              exact this
            have e9 := e8.many (d1.put s (.int ((cnt E P s : Int) - (bs.count s : Nat) - 1)))
            have hf : (fun x => if x = s then some (V.int ((cnt E P s : Int) - (bs.count s : Nat) - 1)) else mf E (fun s => (cnt E P s : Int) - (bs.count s : Nat)) x) = mf E fun s' => (cnt E P s' : Int) - ((bs ++ [s]).count s' : Nat) := by
              funext x
              unfold mf
              simp only [List.count_append]
              by_cases hxs : x = s
              · subst hxs
                rw [if_pos rfl, if_neg hs0]
                simp
                omega
              · rw [if_neg hxs]
                have : ¬ s = x := fun z => hxs z.symm
                simp [List.count_cons, this]
            rw [hf] at e9
            have c9 : (upd H8 M (.dK (putK kvs (Sum.inl s) (.int ((cnt E P s : Int) - (bs.count s : Nat) - 1))))) D = some (.lst ((W' ++ Z).map V.int)) := by rw [upd_ne D2]; exact c8
            have cL9 : (upd H8 M (.dK (putK kvs (Sum.inl s) (.int ((cnt E P s : Int) - (bs.count s : Nat) - 1))))) L = some (.lst ((befs E h).map V.int)) := by rw [upd_ne LM]; exact cL8
            generalize (upd H8 M (.dK (putK kvs (Sum.inl s) (.int ((cnt E P s : Int) - (bs.count s : Nat) - 1))))) = H9 at e9 c9 cL9
            obtain ⟨kvs9, k9, d9⟩ := e9.m
            have hv : DGet H9 M (.int s) (some (.int ((cnt E P s : Int) - ((bs ++ [s]).count s : Nat)))) := by
              have := DGet.k (k := (Sum.inl s : Key)) k9
              rw [d9.val s] at this
              unfold mf at this
              rw [if_neg hs0] at this
              exact this
            have hmem : ∀ z, z ≠ s → ((z ∈ Z ↔ z ∈ bs ++ [s] ∧ cnt E P z = (bs ++ [s]).count z)) := fun z hz => by
              rw [zm z, List.mem_append, List.count_append]
              have : ¬ s = z := fun x => hz x.symm
              simp [hz, List.count_cons, this]
            have hct : (bs ++ [s]).count s = bs.count s + 1 := by rw [List.count_append]; simp
            have hsZ : s ∉ Z := fun z => by
              have := ((zm s).mp z).2
              omega
            refine ⟨.ref M, rfl, .int s, rfl, M, _, rfl, hv, rfl, _, rfl, ite2 (fun h1 => ?_) (fun h1 => ?_)⟩
            · have h0 : cnt E P s = (bs ++ [s]).count s := by
                have := of_decide_eq_true h1
                injection this with this
                omega
              refine ⟨.ref D, rfl, .inl ⟨rfl, _, .inl (.inl c9)⟩, .int s, rfl, D, _, _, rfl, rfl, c9, ?_, ?_⟩
              · rw [List.length_map, List.length_append]
                exact small1000 (by omega)
              refine ⟨Z ++ [s], _, _, _, rfl, e9.other D1 D2 D3 D4 fun a ha => upd_ne ha, ?_, by rw [upd_ne LD]; exact cL9, ?_, fun z => ?_⟩
              · rw [upd_same, ← List.append_assoc, List.map_append, List.map_append]
                simp
              · refine List.nodup_append.mpr ⟨zn, List.nodup_cons.mpr ⟨(fun x => nomatch x), List.nodup_nil⟩, fun x hx y hy hxy => ?_⟩
                rw [List.mem_singleton] at hy
                subst hy hxy
                exact hsZ hx
              · by_cases hz : z = s
                · subst hz
                  simp [h0]
                · rw [← hmem z hz, List.mem_append]
                  simp [hz]
            · have h0 : ¬ cnt E P s = (bs ++ [s]).count s := fun z => h1 (by rw [z]; simp)
              refine ⟨Z, _, _, _, rfl, e9, c9, cL9, zn, fun z => ?_⟩
              by_cases hz : z = s
              · subst hz
                exact ⟨fun x => absurd x hsZ, fun x => absurd x.2 h0⟩
              · exact hmem z hz
          · rintro σ H8 ⟨Z, y3, y4, y5, rfl, e8, c8, cL8, zn, zm⟩
            rw [List.length_map, List.take_length] at e8
            simp only [List.length_map, List.take_length] at zm
            refine ⟨_, ?_, P ++ [h], W' ++ Z, y3, y4, y5, some (.int h), rfl, rfl, kn.step zn zm, ?_, c8⟩
            · rw [List.length_append, List.length_singleton]
              omega
            · have : (fun s => (cnt E P s : Int) - ((befs E h).count s : Nat)) = fun s => ((cnt E (P ++ [h]) s : Nat) : Int) := by
                funext s
                have := hcs s
                omega
              rw [← this]
              exact e8
end
end K24

namespace K24
open PySem PySem.Spec L2 KS GL LB K24m
open PyProof.Rows hiding cnt
section
variable {P : Program} {w : World} {K : PySem.W.Frag} {mg : Str → Option Value} {base : Heap}
def spHas (K : PySem.W.Frag) : Sp := fun vs H Q _ => ∃ (a : Addr) (rs : List (Addr × Row)), vs = [.ref a] ∧ SqQ K H a (rowRefs rs) ∧ RowsAt K H rs ∧ rs.length ≤ 76 ∧
  ∀ (b : Bool) (H' : Hp), Same H H' → (b = true ↔ Cyc (edges (rs.map (·.2)))) → Q (.bl b) H'
theorem scHas : FnScope ["arrows"] ["arrows"] (defScope sHas) := ⟨rfl, rfl, rfl, by decide +kernel, rfl, by decide +kernel, by decide +kernel⟩
theorem ok_has {f : Addr} {fd : FuncData} (F : Fun K "has_cycle" "has_cycle" sHas f fd) (h_end : Has P w K mg base "endless_states" 1 ["arrows"] (spEnd K)) : FnOk P w K mg base CX0 2 f fd ["arrows"] (spHas K) := by
  refine F.ok scHas (fun vs H Q E h => ?_) (fun cdv A outer s H vs Q E hr h => ?_)
  · obtain ⟨_, _, rfl, _⟩ := h
    rfl
  · obtain ⟨a, rs, rfl, hS, hR, hlen, q⟩ := h
    have hu := hu_of hr
    have hu64 := hr.units
    refine ⟨_, (pss_one (ps_ret (pe_cmpR (op_neD0 (Nat.lt_of_le_of_lt (Nat.le_add_right _ 64) hu64)) (pe_has h_end (hr.mono (by decide)) rfl (pa_cons (pv 0) pa_nil)) pe_dnewK (nomark _)))), ?_⟩
    refine ⟨.ref a, rfl, a, rs, rfl, hS, hR, hlen, fun p kvs H' S e1 hk b hb => ?_⟩
    have pb : p ≠ b := ne_of_none e1 hb
    refine ⟨p, b, kvs, rfl, rfl, by rw [upd_ne pb]; exact e1, upd_same, q _ _ (S.trans (same_upd hb)) ?_⟩
    rw [← hk]
    cases kvs <;> simp
end
end K24

/-! The charts' defs in this law's text, by place. -/
namespace CH
open PySem PySem.Spec PyProof.Rows L2 KS GL LB
def topS (i : Nat) : Stmt := PySem.Challenge.pw_loopsaid_k21_removal_sequences.main.body.getD i (.Pass ⟨0, 0, 0, 0⟩)
abbrev nEND : Str := "END_charts"
abbrev sLabel : Stmt := topS 27
abbrev sInt : Stmt := topS 28
abbrev sArrow : Stmt := topS 29
abbrev sSteps : Stmt := topS 30
abbrev sReached : Stmt := topS 31
abbrev sLeast : Stmt := topS 32
abbrev sCheck : Stmt := topS 33
abbrev sInit : Stmt := inClass (topS 38) 0
abbrev sContains : Stmt := inClass (topS 38) 7
end CH

namespace CH
open PySem PySem.Spec PyProof.Rows L2 KS GL LB
structure Blt2 (mg : Str → Option Value) : Prop extends Blt mg where
  b_isinstance : mg "isinstance" = none
  b_all : mg "all" = none
  b_zip : mg "zip" = none
  b_str : mg "str" = none
  b_bool : mg "bool" = none
def resW : List Str := ["choose", "end", "or", "repeat", "states", "stop", "until"]
def lets : Str := "abcdefghijklmnopqrstuvwxyz"
/-- the constants of the charts' module -/
structure Cst (K : PySem.W.Frag) (mg : Str → Option Value) : Prop where
  c_END : ∃ u, mg nEND = some u ∧ RelV (.int (-1)) u
  c_LONGEST : ∃ u, mg "LONGEST_LABEL" = some u ∧ RelV (.int 8) u
  c_PARTS : ∃ u, mg "PARTS" = some u ∧ RelV (.int 3) u
  c_LETTERS : ∃ u, mg "LETTERS" = some u ∧ RelV (.str lets) u
  c_RESERVED : ∃ a, mg "RESERVED" = some (.ref a) ∧ ∀ H : Hp, SqT K H a (resW.map V.str)
/-- what is_label tells of a text -/
def labelB (z : Str) : Bool := decide (1 ≤ z.length) && decide (z.length ≤ 8) && !decide (z ∈ resW) && z.cps.toList.all fun c => decide (c ∈ lets.cps.toList)
theorem flat_strs : ∀ ns : List Str, (ns.map V.str).all flatV = true
  | [] => rfl
  | n :: ns => by
    rw [List.map_cons, List.all_cons, flat_strs ns]
    rfl
theorem inV_strs (s : Str) : ∀ ns : List Str, inV (.str s) (ns.map V.str) = decide (s ∈ ns) := by
  intro ns
  unfold inV
  rw [List.any_map, Bool.eq_iff_iff, List.any_eq_true, decide_eq_true_eq]
  constructor
  · rintro ⟨x, hx, h⟩
    have : x = s := by simpa [eqV] using h
    exact this ▸ hx
  · intro h
    exact ⟨s, h, by simp [eqV]⟩
theorem sameT' {K : PySem.W.Frag} {H H' : Hp} {a : Addr} {xs : List V} (e : Same H H') (h : SqT K H a xs) : SqT K H' a xs := by
  rcases h with (h | ⟨o, h⟩) | h
  · exact .inl (.inl (e _ _ h))
  · exact .inl (.inr ⟨o, e _ _ h⟩)
  · exact .inr h
section
variable {P : Program} {w : World} {K : PySem.W.Frag} {mg : Str → Option Value} {base : Heap}
def spLabel : Sp := fun vs H Q _ => ∃ z : Str, vs = [.str z] ∧ z.length ≤ 1000 ∧ ∀ H', Same H H' → Q (.bl (labelB z)) H'
theorem scLabel : FnScope ["thing", "sign"] ["thing"] (defScope sLabel) := ⟨rfl, rfl, rfl, by decide +kernel, rfl, by decide +kernel, by decide +kernel⟩
theorem ok_label {f : Addr} {fd : FuncData} (F : Fun K "is_label" "is_label" sLabel f fd) (T : Blt2 mg) (C : Cst K mg) : FnOk P w K mg base CX0 1 f fd ["thing"] spLabel := by
  refine F.ok scLabel (fun vs H Q E h => ?_) (fun cdv A outer s H vs Q E hr h => ?_)
  · obtain ⟨_, rfl, _⟩ := h
    rfl
  · obtain ⟨z, rfl, hz, q⟩ := h
    obtain ⟨u1, g1, r1⟩ := C.c_LONGEST
    obtain ⟨u2, g2, r2⟩ := C.c_RESERVED
    obtain ⟨u3, g3, r3⟩ := C.c_LETTERS
    refine ⟨_, (pss_cons (ps_if (PW.pt (pw_or (pt_not (pt_val (pe_callB call_isi (by rfl) T.b_isinstance (by decide +kernel) (pa_cons (pv 0) (pa_cons (pe_bltn (u := .type "str") (v := .ty "str") rfl T.b_str (by decide +kernel) rfl) pa_nil))))) (pw_or (pt_not (pt_chain op_le op_le pe_int (pe_callB call_len_str (by rfl) T.b_len PySem.boot_len (pa_cons (pv 0) pa_nil)) (pe_glob rfl g1 r1))) (pw_or1 (pt_cmpR op_in_seq (pv 0) (pe_glob (v := .ref u2) rfl g2 rfl) (by rfl))))))
    (pss_one (ps_ret pe_bl))
    pss_nil)
  (pss_one (ps_ret (pe_callB (cr_all rfl) (by rfl) T.b_all (by decide +kernel) (pa_cons (pe_lc (own := [("sign", 1)]) (g := gName 1) (tt := tYes) rfl scLabel.nd (pi_str (pv 0)) (blkOk_by (own := [("sign", 1)]) (N := ["thing", "sign"]) (sc := defScope sLabel) (by decide +kernel)) (fun _ _ _ _ _ => (pg_name (i := 1) scLabel.nd rfl (Or.inl rfl))) (fun _ _ _ _ _ => pts_nil) (fun _ _ _ _ _ => (pe_cmpR op_in_sign (pv 1) (pe_glob rfl g3 r3) (by rfl)))) pa_nil))))), ?_⟩
    have hzs : z.length ≤ sizeLine := Nat.le_of_lt (small1000 (by omega))
    have res : ∀ b, labelB z = b → ∀ H', Same H H' → Q (.bl b) H' := fun b e H' S => e ▸ q H' S
    have fin0 : labelB z = false → Q (.bl false) H := fun e => e ▸ q H (Same.refl _)
    -- isinstance(thing, str)
    refine v_isi_str (i := 0) (z := z) rfl ⟨true, rfl, iteF ?_⟩
    -- 1 <= len(thing) <= 8
    refine ⟨.str z, rfl, z, rfl, hzs, 1, _, rfl, rfl, _, rfl, ite2 (fun h1 => ?_) (fun h1 => ?_)⟩
    · refine ⟨_, _, rfl, rfl, _, rfl, ?_⟩
      refine ite2 (fun h2 => ?_) (fun h2 => ?_)
      · refine iteT ?_
        refine fin0 ?_
        have : ¬ z.length ≤ 8 := fun h => by simp at h2; omega
        simp [labelB, this]
      · have h8 : z.length ≤ 8 := Classical.byContradiction fun h => h2 (by simp; omega)
        have h1' : 1 ≤ z.length := by simp at h1; omega
        -- thing in RESERVED
        refine ⟨.str z, rfl, u2, _, rfl, .inr (r2 H), rfl, flat_strs _, _, rfl, ?_⟩
        rw [inV_strs]
        refine ite2 (fun h3 => ?_) (fun h3 => ?_)
        · refine fin0 ?_
          have : z ∈ resW := by simpa using h3
          simp [labelB, this]
        · have hr : ¬ z ∈ resW := by simpa using h3
          -- all(..)
          refine ⟨.str z, rfl, z, rfl, fun D hD => ?_⟩
          refine lc_it walk_str (fun i H' => H' = upd H D (.lst ((z.cps.toList.take i).map fun c => V.bl (decide (c ∈ lets.cps.toList))))) rfl (fun _ _ _ _ => True.intro) ?_ ?_
          · rintro i x H2 H2' hi rfl ⟨rfl, c, hc, rfl⟩
            have hc' : z.cps.toList[i]? = some c := by rw [Array.getElem?_toList]; exact hc
            refine ⟨rfl, ?_⟩
            unfold tYes
            refine iteT ?_
            refine ⟨_, rfl, c, lets, rfl, rfl, _, upd_same, ?_, ?_⟩
            · rw [List.length_map]
              have h := List.length_take_le' i z.cps.toList
              have h9 : z.cps.toList.length = z.length := by rw [Array.length_toList]; rfl
              exact small1000 (by omega)
            · rw [upd_upd, List.take_succ, hc', List.map_append]
              rfl
          · rintro H2 rfl
            have hfull : z.cps.toList.take z.cps.size = z.cps.toList := by rw [← Array.length_toList, List.take_length]
            rw [hfull]
            refine ⟨D, z.cps.toList.map fun c => decide (c ∈ lets.cps.toList), rfl, .inl (.inl (by rw [upd_same, List.map_map]; rfl)), ?_⟩
            have e : labelB z = (z.cps.toList.map fun c => decide (c ∈ lets.cps.toList)).all id := by
              unfold labelB
              rw [decide_eq_true h1', decide_eq_true h8, decide_eq_false hr, List.all_map]
              rfl
            rw [← e]
            exact q _ (same_upd hD)
    · refine ⟨_, rfl, ?_⟩
      refine iteT ?_
      refine fin0 ?_
      have : ¬ 1 ≤ z.length := fun h => h1 (by simp; omega)
      simp [labelB, this]
/-! ### is_integer, is_arrow -/
def spInt : Sp := fun vs H Q _ => ∃ n : Int, vs = [.int n] ∧ Q (.bl true) H
theorem scInt : FnScope ["thing"] ["thing"] (defScope sInt) := ⟨rfl, rfl, rfl, by decide +kernel, rfl, by decide +kernel, by decide +kernel⟩
theorem ok_int {f : Addr} {fd : FuncData} (F : Fun K "is_integer" "is_integer" sInt f fd) (T : Blt2 mg) : FnOk P w K mg base CX0 1 f fd ["thing"] spInt := by
  refine F.ok scInt (fun vs H Q E h => ?_) (fun cdv A outer s H vs Q E hr h => ?_)
  · obtain ⟨_, rfl, _⟩ := h
    rfl
  · obtain ⟨n, rfl, q⟩ := h
    refine ⟨_, (pss_one (ps_ret (pe_and (pe_callB call_isi (by rfl) T.b_isinstance (by decide +kernel) (pa_cons (pv 0) (pa_cons (pe_bltn (u := .type "int") (v := .ty "int") rfl T.b_int (by decide +kernel) rfl) pa_nil))) (pe_one (pe_not (pe_callB call_isi (by rfl) T.b_isinstance (by decide +kernel) (pa_cons (pv 0) (pa_cons (pe_bltn (u := .type "bool") (v := .ty "bool") rfl T.b_bool (by decide +kernel) rfl) pa_nil)))))))), ?_⟩
    refine v_isi_int (i := 0) (n := n) rfl ⟨true, rfl, iteT ?_⟩
    refine v_isi_ib (i := 0) (n := n) rfl ⟨false, rfl, ?_⟩
    exact q
def arrowB (n s : Int) (l : Str) (t : Int) : Bool := labelB l && (decide (0 ≤ s) && decide (s < n)) && (decide (-1 ≤ t) && decide (t < n))
def spArrow (K : PySem.W.Frag) : Sp := fun vs H Q _ => ∃ (n s t : Int) (l : Str) (a : Addr), vs = [.int n, .ref a] ∧ SqT K H a [.int s, .str l, .int t] ∧ l.length ≤ 1000 ∧ ∀ H', Same H H' → Q (.bl (arrowB n s l t)) H'
theorem scArrow : FnScope ["states", "thing", "source", "label", "target"] ["states", "thing"] (defScope sArrow) := ⟨rfl, rfl, rfl, by decide +kernel, rfl, by decide +kernel, by decide +kernel⟩
theorem ok_arrow {f : Addr} {fd : FuncData} (F : Fun K "is_arrow" "is_arrow" sArrow f fd) (T : Blt2 mg) (C : Cst K mg) (his_label : Has P w K mg base "is_label" 1 ["thing"] spLabel) (his_integer : Has P w K mg base "is_integer" 1 ["thing"] spInt) :
    FnOk P w K mg base CX0 2 f fd ["states", "thing"] (spArrow K) := by
  refine F.ok scArrow (fun vs H Q E h => ?_) (fun cdv A outer s H vs Q E hr h => ?_)
  · obtain ⟨_, _, _, _, _, rfl, _⟩ := h
    rfl
  · obtain ⟨n, s, t, l, a, rfl, hS, hl, q⟩ := h
    obtain ⟨u1, g1, r1⟩ := C.c_PARTS
    obtain ⟨u2, g2, r2⟩ := C.c_END
    refine ⟨_, (pss_cons (ps_if (PW.pt (pw_or (pt_not (pt_val (pe_callB call_isi (by rfl) T.b_isinstance (by decide +kernel) (pa_cons (pv 1) (pa_cons (pe_bltn (u := .type "tuple") (v := .ty "tuple") rfl T.b_tuple (by decide +kernel) rfl) pa_nil))))) (pw_or (pt_cmpR op_ne (pe_callB call_len_seq (by rfl) T.b_len PySem.boot_len (pa_cons (pv 1) pa_nil)) (pe_glob rfl g1 r1) (nomark _)) (pw_or1 (pt_not (pt_val (pe_has his_label (hr.mono (by decide)) rfl (pa_cons (pe_ix ix_tup (pv 1) pe_int (fun _ _ => rfl)) pa_nil))))))))
    (pss_one (ps_ret pe_bl))
    pss_nil)
  (pss_cons (ps_asg (pv 1) (pg_tup rfl (pgs_cons (pg_name (i := 2) scArrow.nd rfl (Or.inl rfl)) (pgs_cons (pg_name (i := 3) scArrow.nd rfl (Or.inl rfl)) (pgs_cons (pg_name (i := 4) scArrow.nd rfl (Or.inl rfl)) pgs_nil)))))
  (pss_one (ps_ret (pe_and (pe_has his_integer (hr.mono (by decide)) rfl (pa_cons (pv 2) pa_nil)) (pe_and (pe_has his_integer (hr.mono (by decide)) rfl (pa_cons (pv 4) pa_nil)) (pe_and (pe_chain op_le op_lt pe_int (pv 2) (pv 0)) (pe_one (pe_chain op_le op_lt (pe_glob rfl g2 r2) (pv 4) (pv 0)))))))))), ?_⟩
    refine v_isi_tup (i := 1) rfl hS ⟨true, rfl, iteF ?_⟩
    -- len(thing) != PARTS
    refine ⟨.ref a, rfl, a, _, rfl, .inr hS, rfl, _, rfl, ?_⟩
    refine (show if (!decide (V.int 3 = V.int 3)) = true then _ else _ from ?_)
    rw [decide_eq_true rfl]
    refine iteF ?_
    -- not is_label(thing[1])
    refine ⟨.ref a, rfl, a, _, 1, .str l, rfl, rfl, hS, atI_nat (j := 1) rfl, l, rfl, hl, fun H1 S1 => ⟨_, rfl, ite2 (fun h1 => ?_) (fun h1 => ?_)⟩⟩
    · have h0 : labelB l = false := by simpa using h1
      have : arrowB n s l t = false := by simp [arrowB, h0]
      exact this ▸ q H1 S1
    · have h0 : labelB l = true := by simpa using h1
      have hS1 := sameT' S1 hS
      refine ⟨.ref a, rfl, a, _, rfl, hS1, rfl, _, _, rfl, _, _, rfl, _, _, rfl, rfl, ?_⟩
      refine ⟨.int s, rfl, s, rfl, true, rfl, iteT ?_⟩
      refine ⟨.int t, rfl, t, rfl, true, rfl, iteT ?_⟩
      have no : arrowB n s l t = false → Q (.bl false) H1 := fun e => e ▸ q H1 S1
      refine ⟨.int s, rfl, 0, s, rfl, rfl, _, rfl, ite2 (fun k1 => ?_) (fun k1 => ?_)⟩
      · have k1 : (0 : Int) ≤ s := of_decide_eq_true k1
        refine ⟨.int n, rfl, s, n, rfl, rfl, _, rfl, ite2 (fun k2 => ?_) (fun k2 => ?_)⟩
        · have k2 : s < n := of_decide_eq_true k2
          refine ⟨.int t, rfl, -1, t, rfl, rfl, _, rfl, ite2 (fun k3 => ?_) (fun k3 => ?_)⟩
          · have k3 : -1 ≤ t := of_decide_eq_true k3
            refine ⟨.int n, rfl, t, n, rfl, rfl, ?_⟩
            have : arrowB n s l t = decide (t < n) := by simp [arrowB, h0, k1, k2, k3]
            exact (show Q (.bl (decide (t < n))) H1 from this ▸ q H1 S1)
          · have k3 : ¬ -1 ≤ t := fun h => k3 (decide_eq_true h)
            exact no (by simp [arrowB, k3])
        · have k2 : ¬ s < n := fun h => k2 (decide_eq_true h)
          exact no (by simp [arrowB, k2])
      · have k1 : ¬ (0 : Int) ≤ s := fun h => k1 (decide_eq_true h)
        refine ⟨false, rfl, iteF (no (by simp [arrowB, k1]))⟩
end
end CH

/-! A dict that groups: key after key, each with its own list (d.setdefault(k, []).append(v)). -/
namespace LB
open PySem PySem.Spec PyProof.Rows L2 KS GL
/-- the values of key k, in their order -/
def grp (ps : List (Int × V)) (k : Int) : List V := (ps.filter fun p => decide (p.1 = k)).map (·.2)
def gf (ps : List (Int × V)) (pt : Int → Addr) : Int → Option V := fun k => if grp ps k = [] then none else some (.ref (pt k))
theorem grp_add (ps : List (Int × V)) (s : Int) (v : V) (x : Int) : grp (ps ++ [(s, v)]) x = grp ps x ++ if x = s then [v] else [] := by
  unfold grp
  rw [List.filter_append, List.map_append]
  by_cases h : x = s
  · rw [if_pos h]
    simp [List.filter_cons, h.symm]
  · rw [if_neg h]
    have : ¬ s = x := fun e => h e.symm
    simp [List.filter_cons, this]
theorem grp_le (ps : List (Int × V)) (x : Int) : (grp ps x).length ≤ ps.length := by
  unfold grp
  rw [List.length_map]
  exact List.length_filter_le _ _
theorem mem_grp {ps : List (Int × V)} {x : Int} {v : V} : v ∈ grp ps x ↔ (x, v) ∈ ps := by
  unfold grp
  rw [List.mem_map]
  constructor
  · rintro ⟨⟨a, b⟩, hm, rfl⟩
    have := List.mem_filter.mp hm
    simp at this
    rw [← this.2]
    exact this.1
  · intro hm
    exact ⟨(x, v), List.mem_filter.mpr ⟨hm, by simp⟩, rfl⟩
theorem grp_nil {ps : List (Int × V)} {x : Int} : grp ps x = [] ↔ ∀ v, (x, v) ∉ ps := by
  rw [List.eq_nil_iff_forall_not_mem]
  exact ⟨fun h v hv => h v (mem_grp.mpr hv), fun h v hv => h v (mem_grp.mp hv)⟩
structure GD (H0 H : Hp) (D : Addr) (kvs : List (Key × V)) (ps : List (Int × V)) (pt : Int → Addr) : Prop where
  same : Same H0 H
  fd : H0 D = none
  at_ : H D = some (.dK kvs)
  dm : DM kvs (gf ps pt)
  fl : ∀ k, grp ps k ≠ [] → H0 (pt k) = none
  l : ∀ k, grp ps k ≠ [] → H (pt k) = some (.lst (grp ps k))
  inj : ∀ k j, grp ps k ≠ [] → grp ps j ≠ [] → pt k = pt j → k = j
section
variable {H0 H : Hp} {D : Addr} {kvs : List (Key × V)} {ps : List (Int × V)} {pt : Int → Addr}
theorem GD.nil (h : H D = none) : GD H (upd H D (.dK [])) D [] [] (fun _ => 0) :=
  ⟨same_upd h, h, upd_same, DM.nil, fun _ h => absurd rfl h, fun _ h => absurd rfl h, fun _ _ h => absurd rfl h⟩
theorem GD.len (e : GD H0 H D kvs ps pt) : kvs.length ≤ ps.length := by
  have := e.dm.size (l := ps.map (·.1)) fun s hs => by
    unfold gf at hs
    split at hs
    · exact absurd rfl hs
    · rename_i h
      refine Classical.byContradiction fun no => h (grp_nil.mpr fun t ht => no (List.mem_map.mpr ⟨(s, t), ht, rfl⟩))
  rwa [List.length_map] at this
theorem GD.neD (e : GD H0 H D kvs ps pt) {k : Int} (h : grp ps k ≠ []) : pt k ≠ D := fun x => by
  have := e.l k h
  rw [x, e.at_] at this
  cases this
theorem GD.free (e : GD H0 H D kvs ps pt) {w : Addr} (hw : H w = none) : H0 w = none ∧ w ≠ D ∧ ∀ k, grp ps k ≠ [] → w ≠ pt k := by
  refine ⟨e.same.free hw, fun x => ?_, fun k hk x => ?_⟩
  · rw [x, e.at_] at hw; cases hw
  · rw [x, e.l k hk] at hw; cases hw
theorem GD.other (e : GD H0 H D kvs ps pt) {w : Addr} {H' : Hp} (hw : H0 w = none) (w1 : w ≠ D) (w2 : ∀ k, grp ps k ≠ [] → w ≠ pt k) (hh : ∀ a, a ≠ w → H' a = H a) : GD H0 H' D kvs ps pt := by
  refine ⟨fun a u ha => ?_, e.fd, by rw [hh _ w1.symm]; exact e.at_, e.dm, e.fl, fun k hk => by rw [hh _ (w2 k hk).symm]; exact e.l k hk, e.inj⟩
  rw [hh a (ne_of_none ha hw)]
  exact e.same a u ha
theorem GD.junk (e : GD H0 H D kvs ps pt) {w : Addr} {o : HO} (hw : H w = none) : GD H0 (upd H w o) D kvs ps pt := by
  obtain ⟨a1, a2, a3⟩ := e.free hw
  exact e.other a1 a2 a3 fun a ha => upd_ne ha
/-- a thing that stands, not of the group, is known from now on -/
theorem GD.keep (e : GD H0 H D kvs ps pt) {w : Addr} {o : HO} (hw : H w = some o) (w1 : w ≠ D) (w2 : ∀ k, grp ps k ≠ [] → w ≠ pt k) : GD (upd H0 w o) H D kvs ps pt := by
  refine ⟨fun a u ha => ?_, by rw [upd_ne w1.symm]; exact e.fd, e.at_, e.dm, fun k hk => by rw [upd_ne (w2 k hk).symm]; exact e.fl k hk, e.l, e.inj⟩
  by_cases h : a = w
  · subst h
    rw [upd_same] at ha
    rw [hw, ha]
  · rw [upd_ne h] at ha
    exact e.same a u ha
/-- a new key -/
theorem GD.new (e : GD H0 H D kvs ps pt) {s : Int} {v : V} {p : Addr} {H' : Hp} (hb : grp ps s = []) (hp : H p = none) (hD : H' D = some (.dK (putK kvs (Sum.inl s) (.ref p)))) (hP : H' p = some (.lst [v])) (hh : ∀ a, a ≠ D → a ≠ p → H' a = H a) :
    GD H0 H' D (putK kvs (Sum.inl s) (.ref p)) (ps ++ [(s, v)]) (fun x => if x = s then p else pt x) := by
  obtain ⟨a1, a2, a3⟩ := e.free hp
  have key : ∀ x, ¬ x = s → grp (ps ++ [(s, v)]) x = grp ps x := fun x hx => by rw [grp_add, if_neg hx, List.append_nil]
  have keyt : grp (ps ++ [(s, v)]) s = [v] := by rw [grp_add, if_pos rfl, hb]; rfl
  refine ⟨fun a u ha => ?_, e.fd, hD, (e.dm.put s (.ref p)).congr fun x => ?_, fun x hx => ?_, fun x hx => ?_, fun x y hx hy hxy => ?_⟩
  · rw [hh a (ne_of_none ha e.fd) (ne_of_none ha a1)]
    exact e.same a u ha
  · unfold gf
    by_cases h : x = s
    · subst h
      rw [keyt]
      simp
    · rw [key x h]
      simp [h]
  · by_cases h : x = s
    · simp only [h, if_true]; exact a1
    · simp only [h, if_false]
      rw [key x h] at hx
      exact e.fl x hx
  · by_cases h : x = s
    · subst h
      rw [keyt]
      simp only [if_true]
      exact hP
    · rw [key x h] at hx ⊢
      simp only [h, if_false]
      rw [hh _ (e.neD hx) (a3 x hx).symm]
      exact e.l x hx
  · by_cases h : x = s
    · by_cases k : y = s
      · rw [h, k]
      · rw [key y k] at hy
        simp only [h, k, if_true, if_false] at hxy
        exact absurd hxy (a3 y hy)
    · rw [key x h] at hx
      by_cases k : y = s
      · simp only [h, k, if_true, if_false] at hxy
        exact absurd hxy.symm (a3 x hx)
      · rw [key y k] at hy
        simp only [h, k, if_false] at hxy
        exact e.inj x y hx hy hxy
/-- a known key -/
theorem GD.old (e : GD H0 H D kvs ps pt) {s : Int} {v : V} {H' : Hp} (hb : grp ps s ≠ []) (hP : H' (pt s) = some (.lst (grp ps s ++ [v]))) (hh : ∀ a, a ≠ pt s → H' a = H a) : GD H0 H' D kvs (ps ++ [(s, v)]) pt := by
  have key : ∀ x, ¬ x = s → grp (ps ++ [(s, v)]) x = grp ps x := fun x hx => by rw [grp_add, if_neg hx, List.append_nil]
  have keyt : grp (ps ++ [(s, v)]) s = grp ps s ++ [v] := by rw [grp_add, if_pos rfl]
  have keyn : ∀ x, grp (ps ++ [(s, v)]) x = [] ↔ grp ps x = [] := fun x => by
    by_cases h : x = s
    · subst h
      rw [keyt]
      simp [hb]
    · rw [key x h]
  refine ⟨fun a u ha => ?_, e.fd, by rw [hh _ (e.neD hb).symm]; exact e.at_, e.dm.congr fun x => ?_, fun x hx => e.fl x fun z => hx ((keyn x).mpr z), fun x hx => ?_, fun x y hx hy => e.inj x y (fun z => hx ((keyn x).mpr z)) fun z => hy ((keyn y).mpr z)⟩
  · rw [hh a (ne_of_none ha (e.fl s hb))]
    exact e.same a u ha
  · unfold gf
    by_cases h : grp ps x = []
    · rw [if_pos h, if_pos ((keyn x).mpr h)]
    · rw [if_neg h, if_neg fun z => h ((keyn x).mp z)]
  · have hx' : grp ps x ≠ [] := fun z => hx ((keyn x).mpr z)
    by_cases h : x = s
    · subst h
      rw [hP, keyt]
    · rw [key x h, hh _ fun z => h (e.inj x s hx' hb z)]
      exact e.l x hx'
/-- d.setdefault(s, []).append(v): after the setdefault the list stands at l; behind the append the group holds v, too -/
theorem GD.setd (e : GD H0 H D kvs ps pt) (s : Int) (hl : kvs.length < sizeLine) {Q : VK} {q : Addr} (hq : H q = none)
    (k : ∀ (l : Addr) (H' : Hp) (kvs' : List (Key × V)) (xs : List V), Same H0 H' → H' l = some (.lst xs) → xs.length ≤ ps.length → H0 l = none → (∀ p, H' p = none → p ≠ l ∧ H p = none) → (∀ b o, b ≠ D → H b = some o → H' b = some o) →
      (∀ (v : V) (H2 : Hp) (H1 : Hp), Same H0 H1 → H1 D = none → H1 l = none → (∀ x, grp ps x ≠ [] → H1 (pt x) = none) → Same H1 H2 → (∀ a, H' a ≠ none → H2 a = H' a) → ∃ pt', GD H1 (upd H2 l (.lst (xs ++ [v]))) D kvs' (ps ++ [(s, v)]) pt') → Q (.ref l) H') :
    ∃ (kvs' : List (Key × V)) (k' : Key), (upd H q (.lst [])) D = some (.dK kvs') ∧ V.int s = kV k' ∧ kvs'.length < sizeLine ∧ (∀ v, valV kvs' k' = some v → Q v (upd H q (.lst []))) ∧ (valV kvs' k' = none → Q (.ref q) (upd (upd H q (.lst [])) D (.dK (putK kvs' k' (.ref q))))) := by
  obtain ⟨q1, q2, q3⟩ := e.free hq
  refine ⟨kvs, Sum.inl s, by rw [upd_ne q2.symm]; exact e.at_, rfl, hl, fun v hv => ?_, fun hn => ?_⟩
  · rw [e.dm.val s] at hv
    have hb : grp ps s ≠ [] := fun z => by unfold gf at hv; rw [if_pos z] at hv; cases hv
    obtain rfl : V.ref (pt s) = v := by unfold gf at hv; rw [if_neg hb] at hv; exact Option.some.inj hv
    have e2 := e.junk (o := .lst []) hq
    refine k (pt s) _ kvs (grp ps s) e2.same (e2.l s hb) (grp_le ps s) (e.fl s hb) (fun p hp => ?_) (fun b o _ hbo => by rw [upd_ne (ne_of_none hbo hq)]; exact hbo) fun v H2 H1 S1 f1 f2 f3 S2 hk => ⟨pt, ?_⟩
    · have pq : p ≠ q := fun z => by rw [z, upd_same] at hp; cases hp
      exact ⟨(fun z => by rw [z, e2.l s hb] at hp; cases hp), (by rw [upd_ne pq] at hp; exact hp)⟩
    · have e3 : GD H1 H2 D kvs ps pt := ⟨S2, f1, by rw [hk D (by rw [e2.at_]; exact Option.some_ne_none _)]; exact e2.at_, e.dm, fun x hx => f3 x hx, fun x hx => by rw [hk _ (by rw [e2.l x hx]; exact Option.some_ne_none _)]; exact e2.l x hx, e.inj⟩
      exact e3.old hb upd_same fun a ha => upd_ne ha
  · rw [e.dm.val s] at hn
    have hb : grp ps s = [] := Classical.byContradiction fun z => by unfold gf at hn; rw [if_neg z] at hn; cases hn
    have hqD : (upd (upd H q (.lst [])) D (.dK (putK kvs (Sum.inl s) (.ref q)))) q = some (.lst []) := by rw [upd_ne q2, upd_same]
    refine k q _ (putK kvs (Sum.inl s) (.ref q)) [] (fun b o hb2 => by rw [upd_ne (ne_of_none hb2 e.fd), upd_ne (ne_of_none hb2 q1)]; exact e.same b o hb2) hqD (Nat.zero_le _) q1 (fun p hp => ?_) (fun b o hbD hbo => by rw [upd_ne hbD, upd_ne (ne_of_none hbo hq)]; exact hbo) fun v H2 H1 S1 f1 f2 f3 S2 hk => ?_
    · have pD : p ≠ D := fun z => by rw [z, upd_same] at hp; cases hp
      rw [upd_ne pD] at hp
      have pq : p ≠ q := fun z => by rw [z, upd_same] at hp; cases hp
      rw [upd_ne pq] at hp
      exact ⟨pq, hp⟩
    · have hDD : (upd (upd H q (.lst [])) D (.dK (putK kvs (Sum.inl s) (.ref q)))) D = some (.dK (putK kvs (Sum.inl s) (.ref q))) := upd_same
      have hl2 : ∀ x, grp ps x ≠ [] → H2 (pt x) = some (.lst (grp ps x)) := fun x hx => by
        have : (upd (upd H q (.lst [])) D (.dK (putK kvs (Sum.inl s) (.ref q)))) (pt x) = some (.lst (grp ps x)) := by rw [upd_ne (e.neD hx), upd_ne (q3 x hx).symm]; exact e.l x hx
        rw [hk _ (by rw [this]; exact Option.some_ne_none _)]
        exact this
      -- the heap before the two writings, as if
      have e3 : GD H1 (fun a => if a = D then some (.dK kvs) else if a = q then none else H2 a) D kvs ps pt := by
        refine ⟨fun a u ha => ?_, f1, by simp, e.dm, f3, fun x hx => ?_, e.inj⟩
        · have aD : a ≠ D := ne_of_none ha f1
          have aq : a ≠ q := ne_of_none ha f2
          simp only [aD, aq, if_false]
          exact S2 a u ha
        · have h1 := e.neD hx
          have h2 := (q3 x hx).symm
          simp only [h1, h2, if_false]
          exact hl2 x hx
      refine ⟨_, e3.new hb (by simp [q2]) ?_ (by rw [upd_same]; rfl) fun a h1 h2 => ?_⟩
      · rw [upd_ne q2.symm, hk D (by rw [hDD]; exact Option.some_ne_none _)]
        exact hDD
      · rw [upd_ne h2]
        simp [h1, h2]
theorem GD.setT (e : GD H0 H D kvs ps pt) {i j : Nat} {σ : L2.St} {s : Int} (hi : σ[i]? = some (some (.ref D))) (hj : σ[j]? = some (some (.int s))) (hl : kvs.length < sizeLine) {Q : VK}
    (k : ∀ (l : Addr) (H' : Hp) (kvs' : List (Key × V)) (xs : List V), Same H0 H' → H' l = some (.lst xs) → xs.length ≤ ps.length → H0 l = none → (∀ p, H' p = none → p ≠ l ∧ H p = none) → (∀ b o, b ≠ D → H b = some o → H' b = some o) →
      (∀ (v : V) (H2 : Hp) (H1 : Hp), Same H0 H1 → H1 D = none → H1 l = none → (∀ x, grp ps x ≠ [] → H1 (pt x) = none) → Same H1 H2 → (∀ a, H' a ≠ none → H2 a = H' a) → ∃ pt', GD H1 (upd H2 l (.lst (xs ++ [v]))) D kvs' (ps ++ [(s, v)]) pt') → Q (.ref l) H') :
    tDSetd (tVar i) (tVar j) (tLst tNil) σ H Q := ⟨.ref D, hi, D, rfl, .inl ⟨kvs, .inl e.at_⟩, .int s, hj, Nat.zero_le _, fun q hq => e.setd s hl hq k⟩
end
end LB

namespace CH
open PySem L2 KS GL LB K24
open PySem.Spec hiding Row
open PyProof.Rows hiding cnt
/-- a step (label, target), made anew, and the row it was made of -/
def prs (qs : List (Addr × Row)) : List (Int × V) := qs.map fun q => (q.2.1, V.ref q.1)
theorem prs_add (qs qs2 : List (Addr × Row)) : prs (qs ++ qs2) = prs qs ++ prs qs2 := List.map_append
def StepsAt (H : Hp) (qs : List (Addr × Row)) : Prop := ∀ q ∈ qs, H q.1 = some (.tup [.str q.2.2.1, .int q.2.2.2])
theorem StepsAt.mono {H H' : Hp} {qs : List (Addr × Row)} (h : StepsAt H qs) (S : Same H H') : StepsAt H' qs := fun q hq => S _ _ (h q hq)
section
variable {P : Program} {w : World} {K : PySem.W.Frag} {mg : Str → Option Value} {base : Heap}
def spSteps (K : PySem.W.Frag) : Sp := fun vs H Q _ => ∃ (a : Addr) (rs : List (Addr × Row)), vs = [.ref a] ∧ SqT K H a (rowRefs rs) ∧ RowsAt K H rs ∧ rs.length ≤ 200 ∧
  ∀ (D : Addr) (kvs : List (Key × V)) (pt : Int → Addr) (qs : List (Addr × Row)) (H1 H' : Hp), Same H H1 → GD H1 H' D kvs (prs qs) pt → qs.map (·.2) = rs.map (·.2) → StepsAt H1 qs → Q (.ref D) H'
theorem scSteps : FnScope ["arrows", "found", "source", "label", "target"] ["arrows"] (defScope sSteps) := ⟨rfl, rfl, rfl, by decide +kernel, rfl, by decide +kernel, by decide +kernel⟩
theorem row_at {rs : List (Addr × Row)} {i : Nat} {x : V} (h : (rowRefs rs)[i]? = some x) : ∃ hi : i < rs.length, x = .ref rs[i].1 := by
  have hi : i < rs.length := by
    have := (List.getElem?_eq_some_iff.mp h).1
    rwa [rowRefs_len] at this
  refine ⟨hi, ?_⟩
  unfold rowRefs at h
  rw [List.getElem?_map, List.getElem?_eq_getElem hi] at h
  exact (Option.some.inj h).symm
theorem take_row {rs : List (Addr × Row)} {i : Nat} (hi : i < rs.length) : (rs.map (·.2)).take (i + 1) = (rs.map (·.2)).take i ++ [rs[i].2] := by
  rw [List.take_succ, List.getElem?_map, List.getElem?_eq_getElem hi]
  rfl
theorem ok_steps {f : Addr} {fd : FuncData} (F : Fun K "steps_by_source" "steps_by_source" sSteps f fd) : FnOk P w K mg base CX0 1 f fd ["arrows"] (spSteps K) := by
  refine F.ok scSteps (fun vs H Q E h => ?_) (fun cdv A outer s H vs Q E hr h => ?_)
  · obtain ⟨_, _, rfl, _⟩ := h
    rfl
  · obtain ⟨a, rs, rfl, hS, hR, hlen, q⟩ := h
    have hu := hu_of hr
    refine ⟨_, (pss_cons (ps_set (i := 1) scSteps.nd rfl (Or.inl rfl) pe_dnewK)
  (pss_cons (ps_for PassesOwn.never rfl (pi_tup (pv 0)) (pg_tup rfl (pgs_cons (pg_name (i := 2) scSteps.nd rfl (Or.inl rfl)) (pgs_cons (pg_name (i := 3) scSteps.nd rfl (Or.inl rfl)) (pgs_cons (pg_name (i := 4) scSteps.nd rfl (Or.inl rfl)) pgs_nil))))
    (pss_one (ps_expr (pe_bm PySem.F.plainAttrs_list PySem.F.slot_list_append PySem.F.type_list_append mt_append (pe_dsetd (pv 1) (pv 2) (pe_lst pa_nil) ⟨rfl, rfl, rfl, rfl⟩) (pa_cons (pe_tup (pa_cons (pv 3) (pa_cons (pv 4) pa_nil))) pa_nil)))))
  (pss_one (ps_ret (pv 1))))), ?_⟩
    refine fun D hD => ⟨.ref a, rfl, a, rfl, ⟨_, sameT' (same_upd hD) hS⟩, for_tup (xs := rowRefs rs) (fun i σ H' => ∃ (kvs : List (Key × V)) (pt : Int → Addr) (qs : List (Addr × Row)) (H1 : Hp) (y2 y3 y4 : Option V), σ = [some (.ref a), some (.ref D), y2, y3, y4] ∧ Same H H1 ∧ GD H1 H' D kvs (prs qs) pt ∧
        qs.map (·.2) = (rs.map (·.2)).take i ∧ StepsAt H1 qs) ⟨[], _, [], H, none, none, none, rfl, Same.refl _, GD.nil hD, by simp, fun _ h => (nomatch h)⟩ (fun i σ H' _ ⟨_, _, _, _, _, _, _, _, S, e, _⟩ => sameT' (S.trans e.same) hS) ?_ ?_⟩
    · rintro i x σ H2 hx ⟨kvs, pt, qs, H1, y2, y3, y4, rfl, S, e, hq, hst⟩
      obtain ⟨hi, rfl⟩ := row_at hx
      have hrow : SqT K H2 rs[i].1 (rowV rs[i].2) := sameT' (S.trans e.same) (hR rs[i] (List.getElem_mem hi))
      have hql : (prs qs).length ≤ 200 := by
        have := congrArg List.length hq
        rw [List.length_map, List.length_take, List.length_map] at this
        unfold prs
        rw [List.length_map]
        omega
      rw [take_row hi]
      generalize rs[i].1 = p at hrow
      generalize rs[i].2 = r at hrow
      obtain ⟨s, lb, tg⟩ := r
      refine ⟨p, _, rfl, hrow, rfl, _, _, rfl, _, _, rfl, _, _, rfl, rfl, ?_⟩
      have hkl := e.len
      refine e.setT (i := 1) (j := 2) (s := s) rfl rfl (small1000 (by omega)) fun l H3 kvs' xs S3 hl3 hxl hl0 hfree hkeep fin => ?_
      refine ⟨.inl ⟨rfl, _, .inl (.inl hl3)⟩, .str lb, rfl, .int tg, rfl, (show 2 ≤ sizeLine by decide), fun t ht => ?_⟩
      obtain ⟨tl, ht2⟩ := hfree t ht
      obtain ⟨t0, t1, t2⟩ := e.free ht2
      refine ⟨l, xs, .ref t, rfl, rfl, by rw [upd_ne tl.symm]; exact hl3, small1000 (by omega), ?_⟩
      obtain ⟨pt', e4⟩ := fin (.ref t) (upd H3 t (.tup [.str lb, .int tg])) (upd H1 t (.tup [.str lb, .int tg])) (same_upd t0) (by rw [upd_ne t1.symm]; exact e.fd) (by rw [upd_ne tl.symm]; exact hl0) (fun x hx => by rw [upd_ne (t2 x hx).symm]; exact e.fl x hx) (fun b o hb => by
        by_cases hbt : b = t
        · subst hbt
          rw [upd_same] at hb ⊢
          exact hb
        · rw [upd_ne hbt] at hb ⊢
          exact S3 b o hb) (fun b hb => upd_ne fun z => hb (by rw [z]; exact ht))
      refine ⟨kvs', pt', qs ++ [(t, (s, lb, tg))], _, _, _, _, rfl, S.trans (same_upd t0), by rw [prs_add]; exact e4, by rw [List.map_append, hq]; rfl, fun z hz => ?_⟩
      rcases List.mem_append.mp hz with h | h
      · exact same_upd t0 _ _ (hst z h)
      · rw [List.mem_singleton.mp h]
        exact upd_same
    · rintro σ H2 ⟨kvs, pt, qs, H1, y2, y3, y4, rfl, S, e, hq, hst⟩
      rw [rowRefs_len, ← List.length_map (f := (·.2)) (as := rs), List.take_length] at hq
      exact ⟨.ref D, rfl, q D kvs pt qs H1 H2 S e hq hst⟩
end
end CH

/-! What can be reached, by a list of those that wait; a dict as a set. Plain Lean. -/
namespace LB
open PySem PySem.Spec PyProof.Rows L2
inductive Rch (succ : Int → List Int) : Int → Int → Prop
  | refl {x : Int} : Rch succ x x
  | step {x y z : Int} : Rch succ x y → z ∈ succ y → Rch succ x z
structure Wl (succ : Int → List Int) (st : Int) (F W : List Int) : Prop where
  nd : F.Nodup
  fst : st ∈ F
  sub : ∀ x ∈ W, x ∈ F
  ok : ∀ x ∈ F, Rch succ st x
  done : ∀ x ∈ F, x ∉ W → ∀ y ∈ succ x, y ∈ F
theorem Wl.init (succ : Int → List Int) (st : Int) : Wl succ st [st] [st] :=
  ⟨List.nodup_cons.mpr ⟨(fun h => nomatch h), List.nodup_nil⟩, List.mem_cons_self, fun _ h => h, fun x hx => by rw [List.mem_singleton.mp hx]; exact .refl, fun x hx no => absurd hx no⟩
/-- the turn for x: of ts (the targets so far) those that count (p) are found now -/
structure Wi (p : Int → Bool) (F ts : List Int) (N : List Int) : Prop where
  nd : (F ++ N).Nodup
  new : ∀ y ∈ N, y ∈ ts ∧ p y = true
  all : ∀ y ∈ ts, p y = true → y ∈ F ++ N
theorem Wi.init {p : Int → Bool} {F : List Int} (h : F.Nodup) : Wi p F [] [] := ⟨by simpa using h, fun _ h => (nomatch h), fun _ h => (nomatch h)⟩
theorem Wi.add {p : Int → Bool} {F ts N : List Int} {y : Int} (w : Wi p F ts N) (hp : p y = true) (hy : y ∉ F ++ N) : Wi p F (ts ++ [y]) (N ++ [y]) := by
  refine ⟨?_, fun z hz => ?_, fun z hz hpz => ?_⟩
  · rw [← List.append_assoc]
    refine List.nodup_append.mpr ⟨w.nd, List.nodup_cons.mpr ⟨(fun h => nomatch h), List.nodup_nil⟩, fun a ha b hb e => ?_⟩
    rw [List.mem_singleton] at hb
    subst hb e
    exact hy ha
  · rcases List.mem_append.mp hz with h | h
    · exact ⟨List.mem_append_left _ (w.new z h).1, (w.new z h).2⟩
    · rw [List.mem_singleton.mp h]
      exact ⟨List.mem_append_right _ (List.mem_singleton.mpr rfl), hp⟩
  · rw [← List.append_assoc]
    rcases List.mem_append.mp hz with h | h
    · exact List.mem_append_left _ (w.all z h hpz)
    · exact List.mem_append_right _ h
theorem Wi.skip {p : Int → Bool} {F ts N : List Int} {y : Int} (w : Wi p F ts N) (h : p y = true → y ∈ F ++ N) : Wi p F (ts ++ [y]) N :=
  ⟨w.nd, fun z hz => ⟨List.mem_append_left _ (w.new z hz).1, (w.new z hz).2⟩, fun z hz hpz => by
    rcases List.mem_append.mp hz with h1 | h1
    · exact w.all z h1 hpz
    · rw [List.mem_singleton.mp h1] at hpz ⊢
      exact h hpz⟩
theorem Wl.turn {succ : Int → List Int} {p : Int → Bool} {st x : Int} {F W ts N : List Int} (w : Wl succ st F (W ++ [x])) (hs : ∀ y, y ∈ succ x ↔ y ∈ ts ∧ p y = true) (i : Wi p F ts N) : Wl succ st (F ++ N) (W ++ N) := by
  have hx : x ∈ F := w.sub x (List.mem_append_right _ (List.mem_singleton.mpr rfl))
  refine ⟨i.nd, List.mem_append_left _ w.fst, fun y hy => ?_, fun y hy => ?_, fun y hy no z hz => ?_⟩
  · rcases List.mem_append.mp hy with h | h
    · exact List.mem_append_left _ (w.sub y (List.mem_append_left _ h))
    · exact List.mem_append_right _ h
  · rcases List.mem_append.mp hy with h | h
    · exact w.ok y h
    · exact .step (w.ok x hx) ((hs y).mpr (i.new y h))
  · have hyF : y ∈ F := (List.mem_append.mp hy).resolve_right fun h => no (List.mem_append_right _ h)
    by_cases hyx : y = x
    · subst hyx
      have := (hs z).mp hz
      exact i.all z this.1 this.2
    · refine List.mem_append_left _ (w.done y hyF (fun h => ?_) z hz)
      rcases List.mem_append.mp h with h | h
      · exact no (List.mem_append_left _ h)
      · exact hyx (List.mem_singleton.mp h)
theorem Wl.fin {succ : Int → List Int} {st : Int} {F : List Int} (w : Wl succ st F []) : ∀ x, x ∈ F ↔ Rch succ st x := by
  intro x
  refine ⟨w.ok x, fun h => ?_⟩
  induction h with
  | refl => exact w.fst
  | step _ hz ih => exact w.done _ ih (fun h => nomatch h) _ hz
theorem nodup_len : ∀ (l m : List Int), l.Nodup → (∀ x ∈ l, x ∈ m) → l.length ≤ m.length
  | [], _, _, _ => Nat.zero_le _
  | x :: l, m, nd, h => by
    obtain ⟨m1, m2, rfl⟩ := List.append_of_mem (h x List.mem_cons_self)
    have nd' := List.nodup_cons.mp nd
    have := nodup_len l (m1 ++ m2) nd'.2 fun y hy => by
      rcases List.mem_append.mp (h y (List.mem_cons_of_mem _ hy)) with z | z
      · exact List.mem_append_left _ z
      · rcases List.mem_cons.mp z with rfl | z
        · exact absurd hy nd'.1
        · exact List.mem_append_right _ z
    simp at this ⊢
    omega
/-- all that is found, but the first, is some target -/
theorem Rch.tgt {succ : Int → List Int} {st x : Int} {T : List Int} (h : Rch succ st x) (hT : ∀ y z, z ∈ succ y → z ∈ T) : x = st ∨ x ∈ T := by
  cases h with
  | refl => exact .inl rfl
  | step _ hz => exact .inr (hT _ _ hz)
theorem Wl.few {succ : Int → List Int} {st : Int} {F W T : List Int} (w : Wl succ st F W) (hT : ∀ y z, z ∈ succ y → z ∈ T) : F.length ≤ T.length + 1 := by
  have := nodup_len F (st :: T) w.nd fun x hx => by
    rcases (w.ok x hx).tgt hT with rfl | h
    · exact List.mem_cons_self
    · exact List.mem_cons_of_mem _ h
  simpa using this
/-- a dict that is a set: each member is mapped to True -/
def setf (F : List Int) : Int → Option V := fun x => if x ∈ F then some (.bl true) else none
theorem DM.setAdd {kvs : List (Key × V)} {F : List Int} (d : DM kvs (setf F)) (y : Int) : DM (putK kvs (Sum.inl y) (.bl true)) (setf (F ++ [y])) :=
  (d.put y (.bl true)).congr fun x => by
    unfold setf
    by_cases h : x = y
    · subst h
      simp
    · by_cases h2 : x ∈ F <;> simp [h, h2]
theorem DM.setLen {kvs : List (Key × V)} {F : List Int} (d : DM kvs (setf F)) : kvs.length ≤ F.length := d.size fun s hs => by
  unfold setf at hs
  by_cases h : s ∈ F
  · exact h
  · rw [if_neg h] at hs
    exact absurd rfl hs
theorem setf_some {F : List Int} {x : Int} : (setf F x).isSome = decide (x ∈ F) := by
  unfold setf
  by_cases h : x ∈ F <;> simp [h]
theorem DM.setOne (y : Int) : DM (mergeK [] [((Sum.inl y : Key), V.bl true)]) (setf [y]) := by
  have := (DM.nil.congr (g := setf []) fun _ => rfl).setAdd y
  exact this
end LB

namespace CH
open PySem L2 KS GL LB K24
open PySem.Spec hiding Row
open PyProof.Rows hiding cnt
/-- the targets of s, in order, ends among them -/
def outs (R : List Row) (s : Int) : List Int := (R.filter fun r => decide (r.1 = s)).map (·.2.2)
def sucs (R : List Row) (s : Int) : List Int := (outs R s).filter fun t => decide (t ≠ -1)
theorem shaped_nilL : SeqAt.shaped (PyData.list []) = true := shaped_ints []
section
variable {P : Program} {w : World} {K : PySem.W.Frag} {mg : Str → Option Value} {base : Heap}
/-! ### least_lacking -/
def spLeast : Sp := fun vs H Q _ => ∃ (d : Addr) (kvs : List (Key × V)) (F : List Int), vs = [.ref d] ∧ H d = some (.dK kvs) ∧ DM kvs (setf F) ∧ F.Nodup ∧ ∀ n : Nat, (∀ m : Nat, m < n → (m : Int) ∈ F) → (n : Int) ∉ F → Q (.int n) H
theorem scLeast : FnScope ["found", "state"] ["found"] (defScope sLeast) := ⟨rfl, rfl, rfl, by decide +kernel, rfl, by decide +kernel, by decide +kernel⟩
theorem ok_least {f : Addr} {fd : FuncData} (G : Fun K "least_lacking" "least_lacking" sLeast f fd) : FnOk P w K mg base CX0 1 f fd ["found"] spLeast := by
  refine G.ok scLeast (fun vs H Q E h => ?_) (fun cdv A outer s H vs Q E hr h => ?_)
  · obtain ⟨_, _, _, rfl, _⟩ := h
    rfl
  · obtain ⟨d, kvs, F, rfl, hd, dm, nd, q⟩ := h
    have hu := hu_of hr
    refine ⟨_, (pss_cons (ps_set (i := 1) scLeast.nd rfl (Or.inl rfl) pe_int)
  (pss_cons (ps_while PassesOwn.never (pt_cmp (pc_din hu (pv 1) (pv 0)))
    (pss_one (ps_aug (i := 1) scLeast.nd rfl (Or.inl rfl) pe_int ip_add)))
  (pss_one (ps_ret (pv 1))))), ?_⟩
    refine ⟨fun m σ H' => ∃ n : Nat, σ = [some (.ref d), some (.int n)] ∧ H' = H ∧ (∀ m : Nat, m < n → (m : Int) ∈ F) ∧ m + n = F.length + 1, ⟨_, 0, rfl, rfl, fun m hm => absurd hm (Nat.not_lt_zero m), rfl⟩, ?_⟩
    rintro m σ H' ⟨n, rfl, rfl, hn, hm⟩
    refine ⟨.int n, rfl, .ref d, rfl, d, setf F n, rfl, (by rw [← dm.val n]; exact DGet.k (k := (Sum.inl (n : Int) : Key)) hd), _, rfl, ?_⟩
    rw [setf_some]
    refine ite2 (fun h1 => ?_) (fun h1 => ?_)
    · have hin : (n : Int) ∈ F := of_decide_eq_true h1
      have hlen : n + 1 ≤ F.length := by
        have := nodup_len ((List.range (n + 1)).map Int.ofNat) F (List.Pairwise.map Int.ofNat (fun a b (e : a ≠ b) => fun z => e (Int.ofNat.inj z)) List.nodup_range) fun x hx => by
          obtain ⟨k, hk, rfl⟩ := List.mem_map.mp hx
          have hk := List.mem_range.mp hk
          by_cases e : k = n
          · subst e
            exact hin
          · exact hn k (by omega)
        simpa using this
      refine ⟨fun σ' H'' => ∃ n' : Nat, σ' = [some (.ref d), some (.int n')] ∧ H'' = H' ∧ (∀ m : Nat, m < n' → (m : Int) ∈ F) ∧ n' = n + 1, fun σ' H'' ⟨n', e1, e2, e3, e4⟩ => ⟨F.length - n, by omega, n', e1, e2, e3, by omega⟩, ?_⟩
      refine ⟨.int n, rfl, n, 1, rfl, rfl, n + 1, rfl, rfl, fun k hk => ?_, rfl⟩
      by_cases e : k = n
      · rw [e]; exact hin
      · exact hn k (by omega)
    · have hin : (n : Int) ∉ F := fun h => h1 (decide_eq_true h)
      exact ⟨.int n, rfl, q n hn hin⟩
end
end CH

namespace CH
open PySem L2 KS GL LB K24
open PySem.Spec hiding Row
open PyProof.Rows hiding cnt
theorem grp_prs (qs : List (Addr × Row)) (x : Int) : grp (prs qs) x = (qs.filter fun q => decide (q.2.1 = x)).map fun q => V.ref q.1 := by
  unfold grp prs
  rw [List.filter_map, List.map_map]
  rfl
theorem outs_qs (qs : List (Addr × Row)) (x : Int) : (qs.filter fun q => decide (q.2.1 = x)).map (fun q => q.2.2.2) = outs (qs.map (·.2)) x := by
  unfold outs
  rw [List.filter_map, List.map_map]
  rfl
theorem sucs_tgt {R : List Row} : ∀ y z, z ∈ sucs R y → z ∈ R.map (·.2.2) := by
  intro y z h
  have h1 := (List.mem_filter.mp h).1
  unfold outs at h1
  obtain ⟨r, hr, e⟩ := List.mem_map.mp h1
  exact List.mem_map.mpr ⟨r, (List.mem_filter.mp hr).1, e⟩
/-- the list that d.get(x, []) gives -/
theorem gd_get {H0 H : Hp} {D : Addr} {kvs : List (Key × V)} {ps : List (Int × V)} {pt : Int → Addr} (e : GD H0 H D kvs ps pt) (x : Int) {H' : Hp} (S : Same H H') {g : Addr} (hg : H' g = none) :
    DGet (upd H' g (.lst [])) D (.int x) (gf ps pt x) ∧ ∃ L, (gf ps pt x).getD (.ref g) = .ref L ∧ (upd H' g (.lst [])) L = some (.lst (grp ps x)) ∧ (L = g ∨ H L = some (.lst (grp ps x))) := by
  refine ⟨by rw [← e.dm.val x]; exact DGet.k (k := (Sum.inl x : Key)) (same_upd hg _ _ (S _ _ e.at_)), ?_⟩
  unfold gf
  by_cases hb : grp ps x = []
  · exact ⟨g, by rw [if_pos hb]; rfl, by rw [upd_same, hb], .inl rfl⟩
  · exact ⟨pt x, by rw [if_neg hb]; rfl, same_upd hg _ _ (S _ _ (e.l x hb)), .inr (e.l x hb)⟩
section
variable {P : Program} {w : World} {K : PySem.W.Frag} {mg : Str → Option Value} {base : Heap}
def spReached (K : PySem.W.Frag) : Sp := fun vs H Q _ => ∃ (st : Int) (a : Addr) (rs : List (Addr × Row)), vs = [.int st, .ref a] ∧ SqT K H a (rowRefs rs) ∧ RowsAt K H rs ∧ rs.length ≤ 200 ∧
  ∀ (d : Addr) (kvs : List (Key × V)) (F : List Int) (H' : Hp), Same H H' → H d = none → H' d = some (.dK kvs) → DM kvs (setf F) → F.Nodup → (∀ x, x ∈ F ↔ Rch (sucs (rs.map (·.2))) st x) → Q (.ref d) H'
theorem scReached : FnScope ["state", "arrows", "steps", "found", "waiting", "label", "target"] ["state", "arrows"] (defScope sReached) := ⟨rfl, rfl, rfl, by decide +kernel, rfl, by decide +kernel, by decide +kernel⟩
theorem ok_reached {f : Addr} {fd : FuncData} (G : Fun K "reached_from" "reached_from" sReached f fd) (C : Cst K mg) (hsteps_by_source : Has P w K mg base "steps_by_source" 1 ["arrows"] (spSteps K)) : FnOk P w K mg base CX0 2 f fd ["state", "arrows"] (spReached K) := by
  refine G.ok scReached (fun vs H Q E h => ?_) (fun cdv A outer s H vs Q E hr h => ?_)
  · obtain ⟨_, _, _, rfl, _⟩ := h
    rfl
  · obtain ⟨st, a, rs, rfl, hS, hR, hlen, q⟩ := h
    have hu := hu_of hr
    have hu64 := hr.units
    obtain ⟨u2, g2, r2⟩ := C.c_END
    refine ⟨_, (pss_cons (ps_par3 (i := 2) (j := 3) (l := 4) rfl scReached.nd rfl rfl rfl (by decide) (by decide) (by decide) rfl rfl rfl (pa_cons (pe_has hsteps_by_source (hr.mono (by decide)) rfl (pa_cons (pv 1) pa_nil)) (pa_cons (pe_disp (pps_cons (pv 0) pe_bl pps_nil) (by rfl) (by rfl) (fun z => by cases z) (by decide)) (pa_cons (pe_lst (pa_cons (pv 0) pa_nil)) pa_nil))) (by rfl))
  (pss_cons (ps_while PassesOwn.never (pt_cmpR (op_neD hu64) (pv 4) (pe_lst pa_nil) (nomark _))
    (pss_one (ps_for PassesOwn.never rfl (pi_list (pe_dget2 hu (pv 2) (pe_bm0 PySem.F.plainAttrs_list PySem.F.slot_list_pop PySem.F.type_list_pop mt_pop (pv 4)) (pe_lst pa_nil) ⟨rfl, rfl, rfl, rfl⟩)) (pg_tup rfl (pgs_cons (pg_name (i := 5) scReached.nd rfl (Or.inl rfl)) (pgs_cons (pg_name (i := 6) scReached.nd rfl (Or.inl rfl)) pgs_nil)))
    (pss_one (ps_if (PW.pt (pw_and (pt_cmpR op_ne (pv 6) (pe_glob rfl g2 r2) (nomark _)) (pw_and1 (pt_cmp (pc_dnotin hu (pv 6) (pv 3))))))
    (pss_cons (ps_dput hu (pv 3) (pv 6) pe_bl rfl)
  (pss_one (ps_expr (pe_bm PySem.F.plainAttrs_list PySem.F.slot_list_append PySem.F.type_list_append mt_append (pv 4) (pa_cons (pv 6) pa_nil)))))
    pss_nil)))))
  (pss_one (ps_ret (pv 3))))), ?_⟩
    refine ⟨.ref a, rfl, a, rs, rfl, hS, hR, hlen, fun D kvs pt qs H1 Hb S1 gd hq hst => fun f hf => ?_⟩
    refine ⟨.int st, rfl, upd_same, [(Sum.inl st, .bl true)], rfl, (show 1 ≤ 15 by decide), .int st, rfl, (show 1 ≤ sizeLine by decide), fun ww hw => ⟨_, _, _, rfl, ?_⟩⟩
    rw [upd_upd] at hw ⊢
    have fw : f ≠ ww := fun e => by rw [← e, upd_same] at hw; cases hw
    have hw0 : Hb ww = none := by rw [upd_ne fw.symm] at hw; exact hw
    have Sb := S1.trans gd.same
    have e1 : (upd (upd Hb f (.dK (mergeK [] [((Sum.inl st : Key), V.bl true)]))) ww (.lst [.int st])) f = some (.dK (mergeK [] [((Sum.inl st : Key), V.bl true)])) := by rw [upd_ne fw, upd_same]
    refine ⟨fun m σ H' => ∃ (kv : List (Key × V)) (F W : List Int) (y5 y6 : Option V), σ = [some (.int st), some (.ref a), some (.ref D), some (.ref f), some (.ref ww), y5, y6] ∧ Same Hb H' ∧ H' f = some (.dK kv) ∧ DM kv (setf F) ∧ H' ww = some (.lst (W.map V.int)) ∧
      Wl (sucs (rs.map (·.2))) st F W ∧ W.length ≤ F.length ∧ m = 2 * (rs.length + 1 - F.length) + W.length, ⟨_, _, [st], [st], none, none, rfl, (same_upd hf).trans (same_upd hw), e1, DM.setOne st, upd_same, Wl.init _ _, Nat.le_refl _, rfl⟩, ?_⟩
    rintro m σ H2 ⟨kv, F, W, y5, y6, rfl, S2, f2, dm2, w2, wl, hWF, rfl⟩
    have hFl : F.length ≤ rs.length + 1 := by
      have := wl.few sucs_tgt
      rwa [List.length_map, List.length_map] at this
    refine ⟨.ref ww, rfl, Nat.zero_le _, fun y hy => ?_⟩
    have wy : ww ≠ y := ne_of_none w2 hy
    have fy : f ≠ y := ne_of_none f2 hy
    have S3 : Same Hb (upd H2 y (.lst [])) := S2.trans (same_upd hy)
    have w3 : (upd H2 y (.lst [])) ww = some (.lst (W.map V.int)) := by rw [upd_ne wy]; exact w2
    have f3 : (upd H2 y (.lst [])) f = some (.dK kv) := by rw [upd_ne fy]; exact f2
    refine ⟨_, _, .lst (.inl (.inl w3)) (dp_ints W), .lst (.inl (.inl upd_same)) .nil, shaped_ints W, shaped_nilL, _, rfl, ?_⟩
    rw [eqv_nil]
    generalize upd H2 y (.lst []) = H3 at S3 w3 f3
    clear S2 f2 w2
    rcases List.eq_nil_or_concat W with rfl | ⟨W', x, rfl⟩
    · refine iteF ?_
      exact ⟨.ref f, rfl, q f kv F H3 (Sb.trans S3) (Sb.free hf) f3 dm2 wl.nd wl.fin⟩
    · simp only [List.concat_eq_append] at w3 wl hWF ⊢
      rw [List.length_append, List.length_singleton] at hWF
      rw [show ((W' ++ [x]).isEmpty) = false by cases W' <;> rfl]
      refine iteT ?_
      refine ⟨fun σ H' => ∃ m', m' < 2 * (rs.length + 1 - F.length) + (W' ++ [x]).length ∧ ∃ (kv : List (Key × V)) (F W : List Int) (y5 y6 : Option V), σ = [some (.int st), some (.ref a), some (.ref D), some (.ref f), some (.ref ww), y5, y6] ∧ Same Hb H' ∧ H' f = some (.dK kv) ∧ DM kv (setf F) ∧ H' ww = some (.lst (W.map V.int)) ∧
        Wl (sucs (rs.map (·.2))) st F W ∧ W.length ≤ F.length ∧ m' = 2 * (rs.length + 1 - F.length) + W.length, fun _ _ h => h, ?_⟩
      have hD3 := S3 _ _ gd.at_
      refine ⟨.ref D, rfl, D, rfl, .inl ⟨kvs, .inl hD3⟩, .ref ww, rfl, .inl ⟨rfl, _, .inl (.inl w3)⟩, ww, _, .int x, rfl, rfl, w3, by simp, Nat.zero_le _, fun g hg => ?_⟩
      have S4 : Same Hb (upd H3 ww (.lst (((W' ++ [x]).map V.int).dropLast))) := fun b o hb => by rw [upd_ne (ne_of_none hb hw0)]; exact S3 b o hb
      have w4 : (upd H3 ww (.lst (((W' ++ [x]).map V.int).dropLast))) ww = some (.lst (W'.map V.int)) := by
        rw [upd_same, List.map_append]
        simp
      have f4 : (upd H3 ww (.lst (((W' ++ [x]).map V.int).dropLast))) f = some (.dK kv) := by rw [upd_ne fw]; exact f3
      generalize (upd H3 ww (.lst (((W' ++ [x]).map V.int).dropLast))) = H4 at S4 w4 f4 hg
      obtain ⟨dg, L, hL, eL, hL2⟩ := gd_get gd x S4 hg
      refine ⟨_, dg, ?_⟩
      rw [hL]
      have wg : ww ≠ g := ne_of_none w4 hg
      have fg : f ≠ g := ne_of_none f4 hg
      have Lf : L ≠ f := by
        rcases hL2 with rfl | h
        · exact fg.symm
        · exact fun e => by rw [e, hf] at h; cases h
      have Lw : L ≠ ww := by
        rcases hL2 with rfl | h
        · exact wg.symm
        · exact fun e => by rw [e, hw0] at h; cases h
      have S5 := S4.trans (same_upd (o := .lst []) hg)
      have w5 : (upd H4 g (.lst [])) ww = some (.lst (W'.map V.int)) := by rw [upd_ne wg]; exact w4
      have f5 : (upd H4 g (.lst [])) f = some (.dK kv) := by rw [upd_ne fg]; exact f4
      generalize upd H4 g (.lst []) = H5 at S5 w5 f5 eL
      rw [grp_prs] at eL
      have hts : (qs.filter fun q => decide (q.2.1 = x)).map (fun q => q.2.2.2) = outs (rs.map (·.2)) x := by rw [outs_qs, hq]
      have hsub : ∀ q ∈ (qs.filter fun q => decide (q.2.1 = x)), q ∈ qs := fun q hq => (List.mem_filter.mp hq).1
      have hxl : (qs.filter fun q => decide (q.2.1 = x)).length ≤ rs.length := by
        have h1 := List.length_filter_le (fun q : Addr × Row => decide (q.2.1 = x)) qs
        have h2 := congrArg List.length hq
        rw [List.length_map, List.length_map] at h2
        omega
      generalize (qs.filter fun q => decide (q.2.1 = x)) = qx at hts hsub hxl eL
      refine ⟨L, rfl, ⟨_, .inl (.inl eL)⟩, for_list (xs := qx.map fun q => V.ref q.1) (fun j σ H' => ∃ (kv : List (Key × V)) (N : List Int) (y5 y6 : Option V), σ = [some (.int st), some (.ref a), some (.ref D), some (.ref f), some (.ref ww), y5, y6] ∧ Same Hb H' ∧ H' f = some (.dK kv) ∧ DM kv (setf (F ++ N)) ∧
        H' ww = some (.lst ((W' ++ N).map V.int)) ∧ H' L = some (.lst (qx.map fun q => V.ref q.1)) ∧ Wi (fun t => decide (t ≠ -1)) F ((qx.map fun q => q.2.2.2).take j) N)
        ⟨kv, [], y5, y6, rfl, S5, f5, by rw [List.append_nil]; exact dm2, by rw [List.append_nil]; exact w5, eL, Wi.init wl.nd⟩ (fun j σ H' _ ⟨_, _, _, _, _, _, _, _, _, h, _⟩ => .inl (.inl h)) ?_ ?_⟩
      · rintro j v σ H6 hv ⟨kv6, N, y5, y6, rfl, S6, f6, dm6, w6, L6, wi⟩
        have hj : j < qx.length := by
          have := (List.getElem?_eq_some_iff.mp hv).1
          rwa [List.length_map] at this
        obtain rfl : V.ref qx[j].1 = v := by
          rw [List.getElem?_map, List.getElem?_eq_getElem hj] at hv
          exact Option.some.inj hv
        have htk : (qx.map fun q => q.2.2.2).take (j + 1) = (qx.map fun q => q.2.2.2).take j ++ [qx[j].2.2.2] := by
          rw [List.take_succ, List.getElem?_map, List.getElem?_eq_getElem hj]
          rfl
        have htup := S6 _ _ (gd.same _ _ (hst _ (hsub _ (List.getElem_mem hj))))
        have hNl : N.length ≤ rs.length := by
          have h1 := nodup_len N (qx.map fun q => q.2.2.2) (List.nodup_append.mp wi.nd).2.1 fun z hz => List.mem_of_mem_take (wi.new z hz).1
          rw [List.length_map] at h1
          omega
        have hWl : W'.length ≤ rs.length + 1 + W'.length := by omega
        rw [htk]
        generalize qx[j] = qq at htup
        obtain ⟨p, s0, lb, t⟩ := qq
        refine ⟨p, _, rfl, .inl (.inl htup), rfl, _, _, rfl, _, _, rfl, rfl, ?_⟩
        dsimp only
        refine ⟨.int t, rfl, rfl, _, rfl, ite2 (fun h1 => ?_) (fun h1 => ?_)⟩
        · have ht : t ≠ -1 := fun z => by subst z; simp at h1
          refine ⟨.int t, rfl, .ref f, rfl, f, setf (F ++ N) t, rfl, (by rw [← dm6.val t]; exact DGet.k (k := (Sum.inl t : Key)) f6), _, rfl, ?_⟩
          rw [setf_some]
          refine ite2 (fun h2 => ?_) (fun h2 => ?_)
          · have hn : t ∉ F ++ N := fun z => by simp [z] at h2
            have hkl := dm6.setLen
            rw [List.length_append] at hkl
            refine ⟨.ref f, rfl, .int t, rfl, f, _, rfl, .inl ⟨kv6, Sum.inl t, f6, rfl, small1000 (by omega), rfl⟩, ?_⟩
            have w7 : (upd H6 f (.dK (putK kv6 (Sum.inl t) (.bl true)))) ww = some (.lst ((W' ++ N).map V.int)) := by rw [upd_ne fw.symm]; exact w6
            refine ⟨.ref ww, rfl, .inl ⟨rfl, _, .inl (.inl w7)⟩, .int t, rfl, ww, _, _, rfl, rfl, w7, ?_, ?_⟩
            · rw [List.length_map, List.length_append]
              exact small1000 (by omega)
            · refine ⟨_, N ++ [t], _, _, rfl, fun b o hb => ?_, by rw [upd_ne fw, upd_same], ?_, ?_, by rw [upd_ne Lw, upd_ne Lf]; exact L6, wi.add (by simpa using ht) hn⟩
              · rw [upd_ne (ne_of_none hb hw0), upd_ne (ne_of_none hb hf)]
                exact S6 b o hb
              · rw [← List.append_assoc]
                exact dm6.setAdd t
              · rw [upd_same, ← List.append_assoc, List.map_append, List.map_append]
                simp
          · have hn : t ∈ F ++ N := Classical.byContradiction fun z => h2 (by simp at z; simp [z])
            exact ⟨_, _, _, _, rfl, S6, f6, dm6, w6, L6, wi.skip fun _ => hn⟩
        · have ht : t = -1 := Classical.byContradiction fun z => h1 (by simpa using z)
          exact ⟨_, _, _, _, rfl, S6, f6, dm6, w6, L6, wi.skip fun h => absurd ht (by simpa using h)⟩
      · rintro σ H6 ⟨kv6, N, y5, y6, rfl, S6, f6, dm6, w6, L6, wi⟩
        simp only [List.length_map] at wi
        rw [← List.length_map (f := fun q : Addr × Row => q.2.2.2) (as := qx), List.take_length, hts] at wi
        have wl' := wl.turn (fun y => List.mem_filter) wi
        have hFl' : (F ++ N).length ≤ rs.length + 1 := by
          have := wl'.few sucs_tgt
          rwa [List.length_map, List.length_map] at this
        refine ⟨_, ?_, kv6, F ++ N, W' ++ N, y5, y6, rfl, S6, f6, dm6, w6, wl', by rw [List.length_append, List.length_append]; omega, rfl⟩
        rw [List.length_append] at hFl'
        simp only [List.length_append, List.length_singleton]
        omega
end
end CH

namespace K24
open PySem L2 KS GL LB K24m
open CH (outs take_row row_at sameT' gd_get)
open PySem.Spec hiding Row
open PyProof.Rows hiding cnt
def nx (R : List Row) : List (Int × V) := R.map fun r => (r.1, V.int r.2.2)
theorem grp_nx (R : List Row) (x : Int) : grp (nx R) x = (outs R x).map V.int := by
  unfold grp nx outs
  rw [List.filter_map, List.map_map, List.map_map]
  rfl
/-- where s leads to, v aside -/
def avs (R : List Row) (v : Int) (s : Int) : List Int := (outs R s).filter fun t => decide (t ≠ -1 ∧ t ≠ v)
theorem avs_tgt {R : List Row} {v : Int} : ∀ y z, z ∈ avs R v y → z ∈ R.map (·.2.2) := by
  intro y z h
  have h1 := (List.mem_filter.mp h).1
  unfold outs at h1
  obtain ⟨r, hr, e⟩ := List.mem_map.mp h1
  exact List.mem_map.mpr ⟨r, (List.mem_filter.mp hr).1, e⟩
section
variable {P : Program} {w : World} {K : PySem.W.Frag} {mg : Str → Option Value} {base : Heap}
def spNexts (K : PySem.W.Frag) : Sp := fun vs H Q _ => ∃ (a : Addr) (rs : List (Addr × Row)), vs = [.ref a] ∧ SqQ K H a (rowRefs rs) ∧ RowsAt K H rs ∧ rs.length ≤ 200 ∧
  ∀ (D : Addr) (kvs : List (Key × V)) (pt : Int → Addr) (H' : Hp), GD H H' D kvs (nx (rs.map (·.2))) pt → Q (.ref D) H'
theorem scNexts : FnScope ["arrows", "found", "source", "label", "target"] ["arrows"] (defScope sNexts) := ⟨rfl, rfl, rfl, by decide +kernel, rfl, by decide +kernel, by decide +kernel⟩
theorem ok_nexts {f : Addr} {fd : FuncData} (F : Fun K "nexts_of" "nexts_of" sNexts f fd) : FnOk P w K mg base CX0 1 f fd ["arrows"] (spNexts K) := by
  refine F.ok scNexts (fun vs H Q E h => ?_) (fun cdv A outer s H vs Q E hr h => ?_)
  · obtain ⟨_, _, rfl, _⟩ := h
    rfl
  · obtain ⟨a, rs, rfl, hS, hR, hlen, q⟩ := h
    have hu := hu_of hr
    refine ⟨_, (pss_cons (ps_set (i := 1) scNexts.nd rfl (Or.inl rfl) pe_dnewK)
  (pss_cons (ps_for PassesOwn.never rfl (pi_seq (pv 0)) (pg_tup rfl (pgs_cons (pg_name (i := 2) scNexts.nd rfl (Or.inl rfl)) (pgs_cons (pg_name (i := 3) scNexts.nd rfl (Or.inl rfl)) (pgs_cons (pg_name (i := 4) scNexts.nd rfl (Or.inl rfl)) pgs_nil))))
    (pss_one (ps_expr (pe_bm PySem.F.plainAttrs_list PySem.F.slot_list_append PySem.F.type_list_append mt_append (pe_dsetd (pv 1) (pv 2) (pe_lst pa_nil) ⟨rfl, rfl, rfl, rfl⟩) (pa_cons (pv 4) pa_nil)))))
  (pss_one (ps_ret (pv 1))))), ?_⟩
    refine fun D hD => for_seq (te := tVar 0) (fun Q h => ⟨.ref a, rfl, h⟩) hS (same_upd hD) (fun i σ H' => ∃ (kvs : List (Key × V)) (pt : Int → Addr) (y2 y3 y4 : Option V), σ = [some (.ref a), some (.ref D), y2, y3, y4] ∧ GD H H' D kvs (nx ((rs.map (·.2)).take i)) pt)
      ⟨[], _, none, none, none, rfl, GD.nil hD⟩ (fun i σ H' _ ⟨_, _, _, _, _, _, e⟩ => e.same) ?_ ?_
    · rintro i x σ H2 hx ⟨kvs, pt, y2, y3, y4, rfl, e⟩
      obtain ⟨hi, rfl⟩ := row_at hx
      have hrow : SqT K H2 rs[i].1 (rowV rs[i].2) := sameT' e.same (hR rs[i] (List.getElem_mem hi))
      have hql : (nx ((rs.map (·.2)).take i)).length ≤ 200 := by
        unfold nx
        rw [List.length_map, List.length_take, List.length_map]
        omega
      rw [take_row hi]
      unfold nx at e hql ⊢
      rw [List.map_append]
      generalize rs[i].1 = p at hrow
      generalize rs[i].2 = r at hrow
      obtain ⟨s, lb, tg⟩ := r
      refine ⟨p, _, rfl, hrow, rfl, _, _, rfl, _, _, rfl, _, _, rfl, rfl, ?_⟩
      have hkl := e.len
      refine e.setT (i := 1) (j := 2) (s := s) rfl rfl (small1000 (by omega)) fun l H3 kvs' xs S3 hl3 hxl hl0 hfree hkeep fin => ?_
      refine ⟨.inl ⟨rfl, _, .inl (.inl hl3)⟩, .int tg, rfl, l, xs, .int tg, rfl, rfl, hl3, small1000 (by omega), ?_⟩
      obtain ⟨pt', e4⟩ := fin (.int tg) H3 H (Same.refl _) e.fd hl0 (fun x hx => e.fl x hx) S3 (fun _ _ => rfl)
      exact ⟨kvs', pt', _, _, _, rfl, e4⟩
    · rintro σ H2 ⟨kvs, pt, y2, y3, y4, rfl, e⟩
      rw [rowRefs_len, ← List.length_map (f := (·.2)) (as := rs), List.take_length] at e
      exact ⟨.ref D, rfl, q D kvs pt H2 e⟩
def spFrom : Sp := fun vs H Q _ => ∃ (Hk : Hp) (D : Addr) (kvs : List (Key × V)) (pt : Int → Addr) (R : List Row) (st av : Int), vs = [.ref D, .int st, .int av] ∧ GD Hk H D kvs (nx R) pt ∧ R.length ≤ 200 ∧
  ∀ (d : Addr) (kv : List (Key × V)) (F : List Int) (H' : Hp), Same H H' → H d = none → H' d = some (.dK kv) → DM kv (setf F) → F.Nodup → (∀ x, x ∈ F ↔ Rch (avs R av) st x) → Q (.ref d) H'
theorem scFrom : FnScope ["nexts", "first", "avoided", "found", "waiting", "here", "target"] ["nexts", "first", "avoided"] (defScope sFrom) := ⟨rfl, rfl, rfl, by decide +kernel, rfl, by decide +kernel, by decide +kernel⟩
theorem ok_from {f : Addr} {fd : FuncData} (G : Fun K "states_from" "states_from" sFrom f fd) (gE : ∃ u, mg nENDl = some u ∧ RelV (.int (-1)) u) : FnOk P w K mg base CX0 1 f fd ["nexts", "first", "avoided"] spFrom := by
  refine G.ok scFrom (fun vs H Q E h => ?_) (fun cdv A outer s H vs Q E hr h => ?_)
  · obtain ⟨_, _, _, _, _, _, _, rfl, _⟩ := h
    rfl
  · obtain ⟨Hk, D, kvs, pt, R, st, av, rfl, gd, hlen, q⟩ := h
    have hu := hu_of hr
    have hu64 := hr.units
    obtain ⟨u2, g2, r2⟩ := gE
    refine ⟨_, (pss_cons (ps_par (i := 3) (j := 4) rfl scFrom.nd rfl rfl (by decide) rfl rfl (pa_cons (pe_disp (pps_cons (pv 1) pe_bl pps_nil) (by rfl) (by rfl) (fun z => by cases z) (by decide)) (pa_cons (pe_lst (pa_cons (pv 1) pa_nil)) pa_nil)) (by rfl))
  (pss_cons (ps_while PassesOwn.never (pt_cmpR (op_neD hu64) (pv 4) (pe_lst pa_nil) (nomark _))
    (pss_cons (ps_set (i := 5) scFrom.nd rfl (Or.inl rfl) (pe_bm0 PySem.F.plainAttrs_list PySem.F.slot_list_pop PySem.F.type_list_pop mt_pop (pv 4)))
  (pss_one (ps_for PassesOwn.never rfl (pi_list (pe_dget2 hu (pv 0) (pv 5) (pe_lst pa_nil) ⟨rfl, rfl, rfl, rfl⟩)) (pg_name (i := 6) scFrom.nd rfl (Or.inl rfl))
    (pss_one (ps_if (PW.pt (pw_and (pt_cmpR op_notIn_seq (pv 6) (pe_tup (pa_cons (pe_glob rfl g2 r2) (pa_cons (pv 2) pa_nil))) (by rfl)) (pw_and1 (pt_cmp (pc_dnotin hu (pv 6) (pv 3))))))
    (pss_cons (ps_dput hu (pv 3) (pv 6) pe_bl rfl)
  (pss_one (ps_expr (pe_bm PySem.F.plainAttrs_list PySem.F.slot_list_append PySem.F.type_list_append mt_append (pv 4) (pa_cons (pv 6) pa_nil)))))
    pss_nil))))))
  (pss_one (ps_ret (pv 3))))), ?_⟩
    refine fun f hf => ?_
    refine ⟨.int st, rfl, upd_same, [(Sum.inl st, .bl true)], rfl, (show 1 ≤ 15 by decide), .int st, rfl, (show 1 ≤ sizeLine by decide), fun ww hw => ⟨_, _, rfl, ?_⟩⟩
    rw [upd_upd] at hw ⊢
    have fw : f ≠ ww := fun e => by rw [← e, upd_same] at hw; cases hw
    have hw0 : H ww = none := by rw [upd_ne fw.symm] at hw; exact hw
    have e1 : (upd (upd H f (.dK (mergeK [] [((Sum.inl st : Key), V.bl true)]))) ww (.lst [.int st])) f = some (.dK (mergeK [] [((Sum.inl st : Key), V.bl true)])) := by rw [upd_ne fw, upd_same]
    refine ⟨fun m σ H' => ∃ (kv : List (Key × V)) (F W : List Int) (y5 y6 : Option V), σ = [some (.ref D), some (.int st), some (.int av), some (.ref f), some (.ref ww), y5, y6] ∧ Same H H' ∧ H' f = some (.dK kv) ∧ DM kv (setf F) ∧ H' ww = some (.lst (W.map V.int)) ∧
      Wl (avs R av) st F W ∧ W.length ≤ F.length ∧ m = 2 * (R.length + 1 - F.length) + W.length, ⟨_, _, [st], [st], none, none, rfl, (same_upd hf).trans (same_upd hw), e1, DM.setOne st, upd_same, Wl.init _ _, Nat.le_refl _, rfl⟩, ?_⟩
    rintro m σ H2 ⟨kv, F, W, y5, y6, rfl, S2, f2, dm2, w2, wl, hWF, rfl⟩
    have hFl : F.length ≤ R.length + 1 := by
      have := wl.few avs_tgt
      rwa [List.length_map] at this
    refine ⟨.ref ww, rfl, Nat.zero_le _, fun y hy => ?_⟩
    have wy : ww ≠ y := ne_of_none w2 hy
    have fy : f ≠ y := ne_of_none f2 hy
    have S3 : Same H (upd H2 y (.lst [])) := S2.trans (same_upd hy)
    have w3 : (upd H2 y (.lst [])) ww = some (.lst (W.map V.int)) := by rw [upd_ne wy]; exact w2
    have f3 : (upd H2 y (.lst [])) f = some (.dK kv) := by rw [upd_ne fy]; exact f2
    refine ⟨_, _, .lst (.inl (.inl w3)) (dp_ints W), .lst (.inl (.inl upd_same)) .nil, shaped_ints W, shaped_nil, _, rfl, ?_⟩
    rw [eqv_nil]
    generalize upd H2 y (.lst []) = H3 at S3 w3 f3
    clear S2 f2 w2
    rcases List.eq_nil_or_concat W with rfl | ⟨W', x, rfl⟩
    · refine iteF ?_
      exact ⟨.ref f, rfl, q f kv F H3 S3 hf f3 dm2 wl.nd wl.fin⟩
    · simp only [List.concat_eq_append] at w3 wl hWF ⊢
      rw [List.length_append, List.length_singleton] at hWF
      rw [show ((W' ++ [x]).isEmpty) = false by cases W' <;> rfl]
      refine iteT ?_
      refine ⟨fun σ H' => ∃ m', m' < 2 * (R.length + 1 - F.length) + (W' ++ [x]).length ∧ ∃ (kv : List (Key × V)) (F W : List Int) (y5 y6 : Option V), σ = [some (.ref D), some (.int st), some (.int av), some (.ref f), some (.ref ww), y5, y6] ∧ Same H H' ∧ H' f = some (.dK kv) ∧ DM kv (setf F) ∧ H' ww = some (.lst (W.map V.int)) ∧
        Wl (avs R av) st F W ∧ W.length ≤ F.length ∧ m' = 2 * (R.length + 1 - F.length) + W.length, fun _ _ h => h, ?_⟩
      refine ⟨.ref ww, rfl, .inl ⟨rfl, _, .inl (.inl w3)⟩, ww, _, .int x, rfl, rfl, w3, by simp, ?_⟩
      have S4 : Same H (upd H3 ww (.lst (((W' ++ [x]).map V.int).dropLast))) := fun b o hb => by rw [upd_ne (ne_of_none hb hw0)]; exact S3 b o hb
      have w4 : (upd H3 ww (.lst (((W' ++ [x]).map V.int).dropLast))) ww = some (.lst (W'.map V.int)) := by
        rw [upd_same, List.map_append]
        simp
      have f4 : (upd H3 ww (.lst (((W' ++ [x]).map V.int).dropLast))) f = some (.dK kv) := by rw [upd_ne fw]; exact f3
      generalize (upd H3 ww (.lst (((W' ++ [x]).map V.int).dropLast))) = H4 at S4 w4 f4
      refine ⟨.ref D, rfl, D, rfl, .inl ⟨kvs, .inl (S4 _ _ gd.at_)⟩, .int x, rfl, Nat.zero_le _, fun g hg => ?_⟩
      obtain ⟨dg, L, hL, eL, hL2⟩ := gd_get gd x S4 hg
      refine ⟨_, dg, ?_⟩
      rw [hL]
      have wg : ww ≠ g := ne_of_none w4 hg
      have fg : f ≠ g := ne_of_none f4 hg
      have Lf : L ≠ f := by
        rcases hL2 with rfl | h
        · exact fg.symm
        · exact fun e => by rw [e, hf] at h; cases h
      have Lw : L ≠ ww := by
        rcases hL2 with rfl | h
        · exact wg.symm
        · exact fun e => by rw [e, hw0] at h; cases h
      have S5 := S4.trans (same_upd (o := .lst []) hg)
      have w5 : (upd H4 g (.lst [])) ww = some (.lst (W'.map V.int)) := by rw [upd_ne wg]; exact w4
      have f5 : (upd H4 g (.lst [])) f = some (.dK kv) := by rw [upd_ne fg]; exact f4
      generalize upd H4 g (.lst []) = H5 at S5 w5 f5 eL
      rw [grp_nx] at eL
      have hts : outs R x = outs R x := rfl
      have hxl : (outs R x).length ≤ R.length := by
        unfold outs
        rw [List.length_map]
        exact List.length_filter_le _ _
      obtain ⟨ts, hts⟩ : ∃ ts, outs R x = ts := ⟨_, rfl⟩
      rw [hts] at eL hxl
      refine ⟨L, rfl, ⟨_, .inl (.inl eL)⟩, for_list (xs := ts.map V.int) (fun j σ H' => ∃ (kv : List (Key × V)) (N : List Int) (y5 y6 : Option V), σ = [some (.ref D), some (.int st), some (.int av), some (.ref f), some (.ref ww), y5, y6] ∧ Same H H' ∧ H' f = some (.dK kv) ∧ DM kv (setf (F ++ N)) ∧
        H' ww = some (.lst ((W' ++ N).map V.int)) ∧ H' L = some (.lst (ts.map V.int)) ∧ Wi (fun t => decide (t ≠ -1 ∧ t ≠ av)) F (ts.take j) N)
        ⟨kv, [], _, y6, rfl, S5, f5, by rw [List.append_nil]; exact dm2, by rw [List.append_nil]; exact w5, eL, Wi.init wl.nd⟩ (fun j σ H' _ ⟨_, _, _, _, _, _, _, _, _, h, _⟩ => .inl (.inl h)) ?_ ?_⟩
      · rintro j v σ H6 hv ⟨kv6, N, y5, y6, rfl, S6, f6, dm6, w6, L6, wi⟩
        have hj : j < ts.length := by
          have := (List.getElem?_eq_some_iff.mp hv).1
          rwa [List.length_map] at this
        obtain rfl : V.int ts[j] = v := by
          rw [List.getElem?_map, List.getElem?_eq_getElem hj] at hv
          exact Option.some.inj hv
        have htk : ts.take (j + 1) = ts.take j ++ [ts[j]] := by
          rw [List.take_succ, List.getElem?_eq_getElem hj]
          rfl
        have hNl : N.length ≤ R.length := by
          have h1 := nodup_len N ts (List.nodup_append.mp wi.nd).2.1 fun z hz => List.mem_of_mem_take (wi.new z hz).1
          omega
        rw [htk]
        generalize ts[j] = t
        refine ⟨.int t, rfl, .int av, rfl, (show 2 ≤ sizeLine by decide), fun tp htp => ⟨tp, [.int (-1), .int av], rfl, .inr (.inl (.inl upd_same)), rfl, rfl, _, rfl, ?_⟩⟩
        have S7 := S6.trans (same_upd (o := .tup [.int (-1), .int av]) htp)
        have f7 : (upd H6 tp (.tup [.int (-1), .int av])) f = some (.dK kv6) := by rw [upd_ne (ne_of_none f6 htp)]; exact f6
        have w7 : (upd H6 tp (.tup [.int (-1), .int av])) ww = some (.lst ((W' ++ N).map V.int)) := by rw [upd_ne (ne_of_none w6 htp)]; exact w6
        have L7 : (upd H6 tp (.tup [.int (-1), .int av])) L = some (.lst (ts.map V.int)) := by rw [upd_ne (ne_of_none L6 htp)]; exact L6
        generalize (upd H6 tp (.tup [.int (-1), .int av])) = H7 at S7 f7 w7 L7
        have hin : (if true = true then !inV (.int t) [.int (-1), .int av] else inV (.int t) [.int (-1), .int av]) = decide (t ≠ -1 ∧ t ≠ av) := by
          by_cases h1 : t = -1
          · subst h1
            simp [inV, eqV]
          · by_cases h2 : t = av
            · subst h2
              simp [inV, eqV]
            · have h1' : ¬ -1 = t := fun e => h1 e.symm
              have h2' : ¬ av = t := fun e => h2 e.symm
              simp [inV, eqV, h1, h2, h1', h2']
        rw [hin]
        refine ite2 (fun h1 => ?_) (fun h1 => ?_)
        · refine ⟨.int t, rfl, .ref f, rfl, f, setf (F ++ N) t, rfl, (by rw [← dm6.val t]; exact DGet.k (k := (Sum.inl t : Key)) f7), _, rfl, ?_⟩
          rw [setf_some]
          refine ite2 (fun h2 => ?_) (fun h2 => ?_)
          · have hn : t ∉ F ++ N := fun z => by simp [z] at h2
            have hkl := dm6.setLen
            rw [List.length_append] at hkl
            refine ⟨.ref f, rfl, .int t, rfl, f, _, rfl, .inl ⟨kv6, Sum.inl t, f7, rfl, small1000 (by omega), rfl⟩, ?_⟩
            have w8 : (upd H7 f (.dK (putK kv6 (Sum.inl t) (.bl true)))) ww = some (.lst ((W' ++ N).map V.int)) := by rw [upd_ne fw.symm]; exact w7
            refine ⟨.ref ww, rfl, .inl ⟨rfl, _, .inl (.inl w8)⟩, .int t, rfl, ww, _, _, rfl, rfl, w8, ?_, ?_⟩
            · rw [List.length_map, List.length_append]
              exact small1000 (by omega)
            · refine ⟨_, N ++ [t], _, _, rfl, fun b o hb => ?_, by rw [upd_ne fw, upd_same], ?_, ?_, by rw [upd_ne Lw, upd_ne Lf]; exact L7, wi.add h1 hn⟩
              · rw [upd_ne (ne_of_none hb hw0), upd_ne (ne_of_none hb hf)]
                exact S7 b o hb
              · rw [← List.append_assoc]
                exact dm6.setAdd t
              · rw [upd_same, ← List.append_assoc, List.map_append, List.map_append]
                simp
          · have hn : t ∈ F ++ N := Classical.byContradiction fun z => h2 (by simp at z; simp [z])
            exact ⟨_, _, _, _, rfl, S7, f7, dm6, w7, L7, wi.skip fun _ => hn⟩
        · exact ⟨_, _, _, _, rfl, S7, f7, dm6, w7, L7, wi.skip fun h => absurd h h1⟩
      · rintro σ H6 ⟨kv6, N, y5, y6, rfl, S6, f6, dm6, w6, L6, wi⟩
        rw [List.length_map, List.take_length, ← hts] at wi
        have wl' := wl.turn (fun y => List.mem_filter) wi
        have hFl' : (F ++ N).length ≤ R.length + 1 := by
          have := wl'.few avs_tgt
          rwa [List.length_map] at this
        refine ⟨_, ?_, kv6, F ++ N, W' ++ N, y5, y6, rfl, S6, f6, dm6, w6, wl', by rw [List.length_append, List.length_append]; omega, rfl⟩
        rw [List.length_append] at hFl'
        simp only [List.length_append, List.length_singleton]
        omega
end
end K24

namespace K24
open PySem L2 KS GL LB K24m
open CH (outs take_row row_at sameT' gd_get)
open PySem.Spec hiding Row
open PyProof.Rows hiding cnt
theorem inV_ints (s : Int) : ∀ ns : List Int, inV (.int s) (ns.map V.int) = decide (s ∈ ns) := by
  intro ns
  unfold inV
  rw [List.any_map, Bool.eq_iff_iff, List.any_eq_true, decide_eq_true_eq]
  constructor
  · rintro ⟨x, hx, h⟩
    have : x = s := by simpa [eqV] using h
    exact this ▸ hx
  · intro h
    exact ⟨s, h, by simp [eqV]⟩
theorem flat_ints : ∀ ns : List Int, (ns.map V.int).all flatV = true
  | [] => rfl
  | n :: ns => by
    rw [List.map_cons, List.all_cons, flat_ints ns]
    rfl
theorem _root_.LB.GD.on {H0 H H' : Hp} {D : Addr} {kvs : List (Key × V)} {ps : List (Int × V)} {pt : Int → Addr} (e : GD H0 H D kvs ps pt) (S : Same H H') : GD H0 H' D kvs ps pt :=
  ⟨e.same.trans S, e.fd, S _ _ e.at_, e.dm, e.fl, fun k hk => S _ _ (e.l k hk), e.inj⟩
/-- the rows that leave what is reached from w, v aside -/
def Lv (R : List Row) (v w : Int) (e : Row) : Prop := e ∈ R ∧ Rch (avs R v) w e.1
/-- what a loop arrow is, as the program asks it -/
def LoopP (R : List Row) (r : Row) : Prop :=
  if r.2.2 = -1 ∨ r.2.2 = r.1 then r.2.2 = r.1 else
    (∃ e, Lv R r.1 r.2.2 e ∧ e.2.2 = r.1) ∧ (¬ ∃ e, Lv R r.1 r.2.2 e ∧ e.2.2 = -1) ∧ ∀ l : List Row, (∀ e, e ∈ l ↔ Lv R r.1 r.2.2 e ∧ e.2.2 ≠ r.1) → ¬ Cyc (edges l)
end K24

namespace CH
open PySem L2 KS GL LB K24
open PySem.Spec hiding Row
open PyProof.Rows hiding cnt
theorem walk_zipT {K : PySem.W.Frag} {a b : Addr} {xs ys : List V} {n : Nat} (hn : n = min xs.length ys.length) : Walk (RZ.ItzT K a b) n (fun H => SqT K H a xs ∧ SqT K H b ys) (YPair (fun i => xs[i]?) (fun i => ys[i]?)) := by
  subst hn
  refine ⟨fun i _ hi q => ?_, fun _ q => ⟨xs, ys, q.1, q.2, by omega⟩, fun i H v H' _ q y => ?_⟩
  · have h1 : i < xs.length := by omega
    have h2 : i < ys.length := by omega
    exact ⟨xs, ys, xs[i], ys[i], q.1, q.2, by simp [h1], by simp [h2]⟩
  · obtain ⟨T, x, z, h1, h2, h3, h4, h5⟩ := y
    exact ⟨T, x, z, h1, h2, h3, h4 xs q.1, h5 ys q.2⟩
theorem sl_drop {K : PySem.W.Frag} {H : Hp} {a : Addr} {xs : List V} {Q : VK} (h : SqT K H a xs) (q : ∀ (b : Addr) (H' : Hp), Same H H' → SqT K H' b (xs.drop 1) → Q (.ref b) H') : rSlA K (.ref a) (some 1) none H Q := by
  have h1 : HT.sIx xs.length 0 (some 1) = min 1 xs.length := HT.sIx_nat xs.length 0 1
  have h2 : HT.sIx xs.length xs.length none = xs.length := rfl
  refine ⟨a, xs, rfl, h, fun hw => ?_, fun hw p hp => ?_⟩
  · have h0 : xs = [] := by
      rw [h1] at hw
      exact List.eq_nil_of_length_eq_zero (by omega)
    subst h0
    exact q a H (Same.refl _) h
  · refine q p _ (same_upd hp) (.inl (.inl ?_))
    rw [upd_same]
    have hlen : 1 ≤ xs.length := by
      rw [h1, h2] at hw
      omega
    unfold cutV
    rw [h1, h2, show min 1 xs.length = 1 by omega, List.take_of_length_le (by rw [List.length_drop]; omega)]
theorem alikeR (r q : K24.Row) : W.alike (rowD r) (rowD q) = true := by
  unfold rowD
  simp [W.alike, W.alikeAll]
/-- the rows make a chart of n states -/
structure ChartOk (n : Nat) (R : List K24.Row) : Prop where
  pos : 0 < n
  arr : ∀ r ∈ R, arrowB n r.1 r.2.1 r.2.2 = true
  ord : ∀ i (h : i + 1 < R.length), W.dataLt (rowD R[i]) (rowD R[i + 1]) = true
  all : ∀ m : Nat, m < n → Rch (sucs R) 0 m
theorem lbl_len {z : Str} (h : labelB z = true) : z.length ≤ 8 := by
  unfold labelB at h
  simp at h
  exact h.1.1.2
theorem arrow_lbl {n s t : Int} {l : Str} (h : arrowB n s l t = true) : l.length ≤ 8 := by
  unfold arrowB at h
  simp at h
  exact lbl_len h.1.1
section
variable {P : Program} {w : World} {K : PySem.W.Frag} {mg : Str → Option Value} {base : Heap}
def spCheck (K : PySem.W.Frag) : Sp := fun vs H Q _ => ∃ (n : Nat) (a : Addr) (rs : List (Addr × K24.Row)), vs = [.int n, .ref a] ∧ SqT K H a (rowRefs rs) ∧ RowsAt K H rs ∧ rs.length ≤ 200 ∧ ChartOk n (rs.map (·.2)) ∧ ∀ H' : Hp, Same H H' → Q .non H'
theorem scCheck : FnScope ["states", "arrows", "arrow", "one", "other", "lacking"] ["states", "arrows"] (defScope sCheck) := ⟨rfl, rfl, rfl, by decide +kernel, rfl, by decide +kernel, by decide +kernel⟩
theorem ok_check {f : Addr} {fd : FuncData} (G : Fun K "check_parts" "check_parts" sCheck f fd) (T : Blt2 mg) (his_integer : Has P w K mg base "is_integer" 1 ["thing"] spInt) (his_arrow : Has P w K mg base "is_arrow" 2 ["states", "thing"] (spArrow K))
    (hleast_lacking : Has P w K mg base "least_lacking" 1 ["found"] spLeast) (hreached_from : Has P w K mg base "reached_from" 2 ["state", "arrows"] (spReached K)) : FnOk P w K mg base CX0 3 f fd ["states", "arrows"] (spCheck K) := by
  refine G.ok scCheck (fun vs H Q E h => ?_) (fun cdv A outer s H vs Q E hr h => ?_)
  · obtain ⟨_, _, _, rfl, _⟩ := h
    rfl
  · obtain ⟨n, a, rs, rfl, hS, hR, hlen, ok, q⟩ := h
    have hu := hu_of hr
    have hu64 := hr.units
    refine ⟨_, (pss_cons (ps_if (PW.pt (pw_or (pt_not (pt_val (pe_has his_integer (hr.mono (by decide)) rfl (pa_cons (pv 0) pa_nil)))) (pw_or1 (pt_cmpR op_lt (pv 0) pe_int (nomark _)))))
    (pss_one ps_dead)
    pss_nil)
  (pss_cons (ps_if (pt_not (pt_val (pe_callB call_isi (by rfl) T.b_isinstance (by decide +kernel) (pa_cons (pv 1) (pa_cons (pe_bltn (u := .type "tuple") (v := .ty "tuple") rfl T.b_tuple (by decide +kernel) rfl) pa_nil)))))
    (pss_one ps_dead)
    pss_nil)
  (pss_cons (ps_for PassesOwn.never rfl (pi_tup (pv 1)) (pg_name (i := 2) scCheck.nd rfl (Or.inl rfl))
    (pss_one (ps_if (pt_not (pt_val (pe_has his_arrow (hr.mono (by decide)) rfl (pa_cons (pv 0) (pa_cons (pv 2) pa_nil)))))
    (pss_one ps_dead)
    pss_nil)))
  (pss_cons (ps_if (pt_not (pt_val (pe_callB (cr_all rfl) (by rfl) T.b_all (by decide +kernel) (pa_cons (pe_lc (own := [("one", 3), ("other", 4)]) (g := gTup K 2 (gCons (gName 3) (gCons (gName 4) gNil))) (tt := tYes) (te := tOp (rLtD K) (tVar 3) (tVar 4)) rfl scCheck.nd (RZ.pi_zipA (by rfl) T.b_zip (pa_cons (pv 1) (pa_cons (pe_slice sl_tupA (pv 1) (po_some pe_int) po_none) pa_nil))) (blkOk_by (own := [("one", 3), ("other", 4)]) (N := ["states", "arrows", "arrow", "one", "other", "lacking"]) (sc := defScope sCheck) (by decide +kernel)) (fun _ _ _ _ _ => (pg_tup rfl (pgs_cons (pg_name (i := 3) scCheck.nd rfl (Or.inl rfl)) (pgs_cons (pg_name (i := 4) scCheck.nd rfl (Or.inl rfl)) pgs_nil)))) (fun _ _ _ _ _ => pts_nil) (fun _ _ _ _ _ => (pe_cmpR (op_ltD hu64) (pv 3) (pv 4) (nomark _)))) pa_nil))))
    (pss_one ps_dead)
    pss_nil)
  (pss_cons (ps_set (i := 5) scCheck.nd rfl (Or.inl rfl) (pe_has hleast_lacking (hr.mono (by decide)) rfl (pa_cons (pe_has hreached_from (hr.mono (by decide)) rfl (pa_cons pe_int (pa_cons (pv 1) pa_nil))) pa_nil)))
  (pss_one (ps_if (pt_cmpR op_lt (pv 5) (pv 0) (nomark _))
    (pss_one ps_dead)
    pss_nil))))))), ?_⟩
    have hpos := ok.pos
    refine ⟨.int n, rfl, n, rfl, true, rfl, iteF ?_⟩
    refine ⟨.int n, rfl, n, 1, rfl, rfl, _, rfl, ?_⟩
    rw [decide_eq_false (show ¬ (n : Int) < 1 by omega)]
    refine iteF ?_
    refine v_isi_tup (i := 1) rfl hS ⟨true, rfl, iteF ?_⟩
    refine ⟨.ref a, rfl, a, rfl, ⟨_, hS⟩, for_tup (xs := rowRefs rs) (fun i σ H' => ∃ y2 : Option V, σ = [some (.int n), some (.ref a), y2, none, none, none] ∧ Same H H') ⟨none, rfl, Same.refl _⟩ (fun i σ H' _ ⟨_, _, S⟩ => sameT' S hS) ?_ ?_⟩
    · rintro i x σ H2 hx ⟨y2, rfl, S⟩
      obtain ⟨hi, rfl⟩ := row_at hx
      have hok := ok.arr rs[i].2 (List.mem_map.mpr ⟨_, List.getElem_mem hi, rfl⟩)
      have hl := arrow_lbl hok
      refine ⟨.int n, rfl, .ref rs[i].1, rfl, n, rs[i].2.1, rs[i].2.2.2, rs[i].2.2.1, rs[i].1, rfl, sameT' S (hR rs[i] (List.getElem_mem hi)), by omega, fun H3 S3 => ⟨_, rfl, ?_⟩⟩
      rw [hok]
      refine iteF ?_
      exact ⟨_, rfl, S.trans S3⟩
    · rintro σ H2 ⟨y2, rfl, S⟩
      have hS2 := sameT' S hS
      have hR2 := hR.mono S
      -- arrows[1:]
      refine ⟨.ref a, rfl, .ref a, rfl, 1, rfl, ?_⟩
      unfold tNoPart tNil
      dsimp only
      refine sl_drop hS2 fun b H3 S3 hb => ?_
      refine ⟨a, b, rowRefs rs, _, rfl, .inr ⟨sameT' S3 hS2, hb, fun D hD => ?_⟩⟩
      have hmin : (rowRefs rs).length - 1 = min (rowRefs rs).length ((rowRefs rs).drop 1).length := by
        rw [List.length_drop]
        omega
      refine lc_it (walk_zipT hmin) (fun i H' => Same H3 H' ∧ H' D = some (.lst (List.replicate i (.bl true)))) ⟨same_upd hD, upd_same⟩ (fun i H' _ h => ⟨sameT' (S3.trans h.1) hS2, sameT' h.1 hb⟩) ?_ ?_
      · rintro i x H4 H5 hi ⟨S4, e4⟩ ⟨t, u, v, rfl, ht, rfl, hu', hv'⟩
        have hi1 : i + 1 < rs.length := by
          rw [rowRefs_len] at hi
          omega
        dsimp only at hu' hv'
        obtain ⟨h1, rfl⟩ := row_at hu'
        rw [List.getElem?_drop] at hv'
        have hv'' : (rowRefs rs)[i + 1]? = some v := by rw [Nat.add_comm]; exact hv'
        obtain ⟨h2, rfl⟩ := row_at hv''
        have S5 := S4.trans (same_upd (o := .tup [.ref rs[i].1, .ref rs[i + 1].1]) ht)
        have Dt : D ≠ t := ne_of_none e4 ht
        have hord := ok.ord i (by rw [List.length_map]; exact hi1)
        rw [List.getElem_map, List.getElem_map] at hord
        have r1 := sameT' (S3.trans S5) (hR2 rs[i] (List.getElem_mem h1))
        have r2 := sameT' (S3.trans S5) (hR2 rs[i + 1] (List.getElem_mem h2))
        refine ⟨t, _, rfl, .inl (.inl upd_same), rfl, _, _, rfl, _, _, rfl, rfl, rfl, ?_⟩
        unfold tYes
        refine iteT ?_
        refine ⟨.ref rs[i].1, rfl, .ref rs[i + 1].1, rfl, rowD rs[i].2, rowD rs[i + 1].2, dp_row r1, dp_row r2, alikeR _ _, (fun z => by cases z), (by rw [depth_row]; decide), ?_⟩
        rw [hord]
        refine ⟨_, by rw [upd_ne Dt]; exact e4, ?_, ?_, ?_⟩
        · rw [List.length_replicate]
          exact small1000 (by omega)
        · refine fun z o hz => ?_
          have h3 : H3 z = some o := hz
          rw [upd_ne (ne_of_none hz hD)]
          exact S5 z o hz
        · rw [upd_same, List.replicate_succ']
      · rintro H4 ⟨S4, e4⟩
        refine ⟨D, List.replicate ((rowRefs rs).length - 1) true, rfl, .inl (.inl (by rw [e4, List.map_replicate])), _, rfl, ?_⟩
        have hall : (List.replicate ((rowRefs rs).length - 1) true).all id = true := by
          rw [List.all_eq_true]
          intro x hx
          exact (List.mem_replicate.mp hx).2
        rw [hall]
        refine iteF ?_
        have S24 := S3.trans S4
        refine ⟨.ref a, rfl, 0, a, rs, rfl, sameT' S24 hS2, hR2.mono S24, hlen, fun d kvs F' H5 S5 hd0 hd dm nd hF => ?_⟩
        refine ⟨d, kvs, F', rfl, hd, dm, nd, fun m hm hm2 => ?_⟩
        have hge : ¬ m < n := fun hlt => hm2 ((hF m).mpr (ok.all m hlt))
        refine ⟨.int m, rfl, .int n, rfl, m, n, rfl, rfl, _, rfl, ?_⟩
        rw [decide_eq_false (show ¬ (m : Int) < n by omega)]
        refine iteF ?_
        exact q H5 (S.trans (S24.trans S5))
end
end CH

namespace CH
open PySem L2 KS GL LB K24
open PySem.Spec hiding Row
open PyProof.Rows hiding cnt
theorem f_as : ¬ (("arrows" : Str) = "states") := by decide +kernel
theorem f_os : ¬ (("open_steps" : Str) = "states") := by decide +kernel
theorem f_oa : ¬ (("open_steps" : Str) = "arrows") := by decide +kernel
theorem f_sa : ¬ (("states" : Str) = "arrows") := by decide +kernel
theorem f_so : ¬ (("states" : Str) = "open_steps") := by decide +kernel
theorem f_ao : ¬ (("arrows" : Str) = "open_steps") := by decide +kernel
/-- a chart's fields -/
def cf (n : Nat) (a o : Addr) : List (Str × V) := putF "open_steps" (.ref o) (putF "arrows" (.ref a) (putF "states" (.int n) []))
theorem cf_states (n : Nat) (a o : Addr) : (cf n a o).lookup ("states" : Str) = some (.int n) := by
  unfold cf
  rw [lookup_putF, if_neg f_so, lookup_putF, if_neg f_sa, lookup_putF, if_pos rfl]
theorem cf_arrows (n : Nat) (a o : Addr) : (cf n a o).lookup ("arrows" : Str) = some (.ref a) := by
  unfold cf
  rw [lookup_putF, if_neg f_ao, lookup_putF, if_pos rfl]
theorem cf_open (n : Nat) (a o : Addr) : (cf n a o).lookup ("open_steps" : Str) = some (.ref o) := by
  unfold cf
  rw [lookup_putF, if_pos rfl]
theorem cf_no (n : Nat) (a o : Addr) {m : Str} (h1 : ¬ m = "states") (h2 : ¬ m = "arrows") (h3 : ¬ m = "open_steps") : (cf n a o).lookup m = none := by
  unfold cf
  rw [lookup_putF, if_neg h3, lookup_putF, if_neg h2, lookup_putF, if_neg h1]
  rfl
/-- the open steps' dict at o: each source with the tuple of its steps -/
structure OpenAt (H : Hp) (o : Addr) (R : List K24.Row) : Prop where
  ex : ∃ (kvs : List (Key × V)) (tp : Int → Addr) (qs : List (Addr × K24.Row)), H o = some (.dK kvs) ∧ DM kvs (gf (prs qs) tp) ∧ (∀ s, grp (prs qs) s ≠ [] → H (tp s) = some (.tup (grp (prs qs) s))) ∧ qs.map (·.2) = R ∧ StepsAt H qs
theorem OpenAt.mono {H H' : Hp} {o : Addr} {R : List K24.Row} (h : OpenAt H o R) (S : Same H H') : OpenAt H' o R := by
  obtain ⟨kvs, tp, qs, h1, h2, h3, h4, h5⟩ := h.ex
  exact ⟨kvs, tp, qs, S _ _ h1, h2, fun s hs => S _ _ (h3 s hs), h4, h5.mono S⟩
/-- a chart of n states with the rows rs (the tuple at a) -/
structure ChartAt (K : PySem.W.Frag) (C : Addr) (H : Hp) (p : Addr) (n : Nat) (a : Addr) (rs : List (Addr × K24.Row)) : Prop where
  ins : ∃ dx o, H p = some (.ins C dx (cf n a o)) ∧ OpenAt H o (rs.map (·.2))
  tup : SqT K H a (rowRefs rs)
  rows : RowsAt K H rs
theorem ChartAt.mono {K : PySem.W.Frag} {C : Addr} {H H' : Hp} {p : Addr} {n : Nat} {a : Addr} {rs : List (Addr × K24.Row)} (h : ChartAt K C H p n a rs) (S : Same H H') : ChartAt K C H' p n a rs := by
  obtain ⟨dx, o, h1, h2⟩ := h.ins
  exact ⟨⟨dx, o, S _ _ h1, h2.mono S⟩, sameT' S h.tup, h.rows.mono S⟩
def rTupOf (K : PySem.W.Frag) : List V → Hp → VK → Prop := fun xs H Q => ∃ p ys, xs = [V.ref p] ∧ ((SqL K H p ys ∧ ∀ l, H l = none → Q (.ref l) (upd H l (.tup ys))) ∨ (SqT K H p ys ∧ Q (.ref p) H))
/-- what the written part says of the class -/
structure ChC (K : PySem.W.Frag) (mg : Str → Option Value) (C : Addr) : Prop where
  cl : Cls K C
  n1 : NoAttr K C "states"
  n2 : NoAttr K C "arrows"
  n3 : NoAttr K C "open_steps"
  mgC : mg "Chart" = some (.ref C)
section
variable {P : Program} {w : World} {K : PySem.W.Frag} {mg : Str → Option Value} {base : Heap}
def spInit (K : PySem.W.Frag) (C : Addr) : Sp := fun vs H Q _ => ∃ (H0 : Hp) (p dx : Addr) (n : Nat) (a : Addr) (rs : List (Addr × K24.Row)), vs = [.ref p, .int n, .ref a] ∧ Same H0 H ∧ H0 p = none ∧ H p = some (.ins C dx []) ∧ SqT K H0 a (rowRefs rs) ∧ RowsAt K H0 rs ∧ rs.length ≤ 200 ∧
  ChartOk n (rs.map (·.2)) ∧ ∀ H' : Hp, Same H0 H' → ChartAt K C H' p n a rs → Q .non H'
theorem scInit : FnScope ["self", "states", "arrows", "source", "some"] ["self", "states", "arrows"] (defScope sInit) := ⟨rfl, rfl, rfl, by decide +kernel, rfl, by decide +kernel, by decide +kernel⟩
theorem ok_init {f C : Addr} {fd : FuncData} (G : Fun K "__init__" "Chart.__init__" sInit f fd) (T : Blt2 mg) (CC : ChC K mg C) (hcheck_parts : Has P w K mg base "check_parts" 3 ["states", "arrows"] (spCheck K)) (hsteps_by_source : Has P w K mg base "steps_by_source" 1 ["arrows"] (spSteps K)) :
    FnOk P w K mg base CX0 4 f fd ["self", "states", "arrows"] (spInit K C) := by
  refine G.ok scInit (fun vs H Q E h => ?_) (fun cdv A outer s H vs Q E hr h => ?_)
  · obtain ⟨_, _, _, _, _, _, rfl, _⟩ := h
    rfl
  · obtain ⟨H0, p, dx, n, a, rs, rfl, S0, p0, hp, hS, hR, hlen, ok, q⟩ := h
    refine ⟨_, (pss_cons (ps_expr (pe_has hcheck_parts (hr.mono (by decide)) rfl (pa_cons (pv 1) (pa_cons (pv 2) pa_nil))))
      (pss_cons (ps_fld (pv 0) (pv 1) rfl) (pss_cons (ps_fld (pv 0) (pv 2) rfl)
      (pss_one (ps_fld (pv 0) (pe_dc (own := [("source", 3), ("some", 4)]) (g := gTup K 2 (gCons (gName 3) (gCons (gName 4) gNil))) (tt := tYes) rfl scInit.nd (pi_items (pe_lk (pe_has hsteps_by_source (hr.mono (by decide)) rfl (pa_cons (pv 2) pa_nil)))) (blkOk_by (own := [("source", 3), ("some", 4)]) (N := ["self", "states", "arrows", "source", "some"]) (sc := defScope sInit) (by decide +kernel)) (fun _ _ _ _ _ => (pg_tup rfl (pgs_cons (pg_name (i := 3) scInit.nd rfl (Or.inl rfl)) (pgs_cons (pg_name (i := 4) scInit.nd rfl (Or.inl rfl)) pgs_nil)))) (fun _ _ _ _ _ => pts_nil) (fun _ _ _ _ _ => (pv 3)) (fun _ _ _ _ _ => (pe_callTy (T := "tuple") (r := rTupOf K) call_tuple_of (by rfl) T.b_tuple (by decide +kernel) (pa_cons (pv 4) pa_nil)))) rfl))))), ?_⟩
    have S0p : ∀ b o, H0 b = some o → b ≠ p := fun b o hb => ne_of_none hb p0
    -- check_parts(states, arrows)
    refine ⟨.int n, rfl, .ref a, rfl, n, a, rs, rfl, sameT' S0 hS, hR.mono S0, hlen, ok, fun H1 S1 => ?_⟩
    have hp1 := S1 _ _ hp
    have S01 := S0.trans S1
    refine ⟨.int n, rfl, .ref p, rfl, p, C, dx, _, rfl, hp1, CC.cl, CC.n1, (by show 0 < 1000; decide), ?_⟩
    refine ⟨.ref a, rfl, .ref p, rfl, p, C, dx, _, rfl, upd_same, CC.cl, CC.n2, (by show 1 < 1000; decide), ?_⟩
    rw [upd_upd]
    have S2 : Same H0 (upd H1 p (.ins C dx (putF "arrows" (.ref a) (putF "states" (.int n) [])))) := fun b o hb => by rw [upd_ne (S0p b o hb)]; exact S01 b o hb
    have hp2 : (upd H1 p (.ins C dx (putF "arrows" (.ref a) (putF "states" (.int n) [])))) p = some (.ins C dx (putF "arrows" (.ref a) (putF "states" (.int n) []))) := upd_same
    generalize (upd H1 p (.ins C dx (putF "arrows" (.ref a) (putF "states" (.int n) [])))) = H2 at S2 hp2
    -- self.open_steps = {..}
    refine ⟨.ref a, rfl, a, rs, rfl, sameT' S2 hS, hR.mono S2, hlen, fun D kvs pt qs Hk H3 S3 gd hq hst => ⟨D, .dK kvs, rfl, gd.at_, trivial, fun od => ⟨D, od, kvs, rfl, upd_same, fun O hO => ?_⟩⟩⟩
    have OD : O ≠ D := fun z => by rw [z, upd_same] at hO; cases hO
    rw [upd_ne OD] at hO
    have hql : qs.length = rs.length := by
      have := congrArg List.length hq
      rwa [List.length_map, List.length_map] at this
    have hkl := gd.len
    have hps : (prs qs).length = rs.length := by unfold prs; rw [List.length_map, hql]
    have S23 : Same H2 H3 := S3.trans gd.same
    refine dc_it walk_items (fun i H' => H' D = some (.frz od (.dK kvs)) ∧ (∀ b o, b ≠ D → H3 b = some o → H' b = some o) ∧ ∃ (kvO : List (Key × V)) (tp : Int → Addr), H' O = some (.dK kvO) ∧ kvO.length ≤ i ∧
        DM kvO (fun s => if s ∈ (kvs.map fun p => keyI p.1).take i then some (.ref (tp s)) else none) ∧ ∀ s ∈ (kvs.map fun p => keyI p.1).take i, H' (tp s) = some (.tup (grp (prs qs) s))) ?_ (fun i H' _ h => h.1) ?_ ?_
    · exact ⟨by rw [upd_ne OD.symm, upd_same], fun b o h1 h2 => by rw [upd_ne (ne_of_none h2 hO), upd_ne h1]; exact h2, [], fun _ => 0, upd_same, Nat.le_refl _, DM.nil, fun _ h => (nomatch h)⟩
    · rintro i x H4 H5 hi ⟨g1, g2, kvO, tp, g3, g4, g5, g6⟩ ⟨t, u, v, rfl, ht, rfl, hu', hv'⟩
      have ekv : kvs[i]? = some kvs[i] := List.getElem?_eq_getElem hi
      dsimp only at hu' hv'
      rw [ekv] at hu' hv'
      obtain rfl := Option.some.inj hu'
      obtain rfl := Option.some.inj hv'
      have hmem : kvs[i] ∈ kvs := List.getElem_mem hi
      have htk : (kvs.map fun p => keyI p.1).take (i + 1) = (kvs.map fun p => keyI p.1).take i ++ [keyI kvs[i].1] := by
        rw [List.take_succ, List.getElem?_map, ekv]
        rfl
      have hnew : keyI kvs[i].1 ∉ (kvs.map fun p => keyI p.1).take i := by
        have nd := gd.dm.keysI.1
        have h1 := List.take_append_drop (i + 1) (kvs.map fun p => keyI p.1)
        rw [htk] at h1
        rw [← h1] at nd
        have h2 := (List.nodup_append.mp (List.nodup_append.mp nd).1).2.2
        intro hin
        exact h2 _ hin _ (List.mem_singleton.mpr rfl) rfl
      rw [htk]
      generalize (kvs.map fun p => keyI p.1).take i = ks at hnew g5 g6
      generalize kvs[i] = kv at hmem hnew
      obtain ⟨k, v⟩ := kv
      obtain ⟨s, hs⟩ := gd.dm.isI _ hmem
      dsimp only at hs
      subst hs
      have hv := gd.dm.mem.mp hmem
      have hb : grp (prs qs) s ≠ [] := fun z => by unfold gf at hv; rw [if_pos z] at hv; cases hv
      obtain rfl : V.ref (pt s) = v := by unfold gf at hv; rw [if_neg hb] at hv; exact Option.some.inj hv
      have hnew : s ∉ ks := hnew
      have hlist := g2 _ _ (gd.neD hb) (gd.l s hb)
      have S45 : Same H4 (upd H4 t (.tup [kV (Sum.inl s), .ref (pt s)])) := same_upd ht
      refine ⟨t, _, rfl, .inl (.inl upd_same), rfl, _, _, rfl, _, _, rfl, rfl, rfl, ?_⟩
      unfold tYes
      refine iteT ?_
      refine ⟨kV (Sum.inl s), rfl, .ref (pt s), rfl, pt s, _, rfl, .inl ⟨.inl (.inl (S45 _ _ hlist)), fun l hl => ?_⟩⟩
      have S46 := S45.trans (same_upd (o := .tup (grp (prs qs) s)) hl)
      have g36 := S46 _ _ g3
      have OL : O ≠ l := fun z => by rw [← z, S45 _ _ g3] at hl; cases hl
      refine ⟨kvO, Sum.inl s, rfl, g36, small1000 (by omega), by rw [upd_ne OD.symm]; exact S46 _ _ g1, fun b o h1 h2 => ?_, _, (fun x => if x = s then l else tp x), upd_same, ?_, (g5.put s (.ref l)).congr fun x => ?_, fun x hx => ?_⟩
      · rw [upd_ne (ne_of_none h2 hO)]
        exact S46 _ _ (g2 b o h1 h2)
      · have := length_putK kvO (Sum.inl s : Key) (.ref l)
        omega
      · by_cases h : x = s
        · subst h
          simp [keyI]
        · have h2 : x ∈ ks ++ [keyI (Sum.inl s : Key)] ↔ x ∈ ks := by
            rw [List.mem_append, List.mem_singleton]
            exact ⟨fun z => z.resolve_right h, .inl⟩
          simp only [h, if_false]
          by_cases h3 : x ∈ ks
          · rw [if_pos h3, if_pos (h2.mpr h3)]
          · rw [if_neg h3, if_neg fun z => h3 (h2.mp z)]
      · have hlO : l ≠ O := OL.symm
        by_cases h : x = s
        · subst h
          simp only [if_true]
          rw [upd_ne hlO, upd_same]
        · simp only [h, if_false]
          have hx2 : x ∈ ks := by
            rcases List.mem_append.mp hx with z | z
            · exact z
            · exact absurd (List.mem_singleton.mp z) h
          have h6 := g6 x hx2
          have hne : tp x ≠ O := fun z => by rw [z, g3] at h6; cases h6
          rw [upd_ne hne]
          exact S46 _ _ h6
    · rintro H4 ⟨g1, g2, kvO, tp, g3, g4, g5, g6⟩
      have hfull : (kvs.map fun p => keyI p.1).take kvs.length = kvs.map fun p => keyI p.1 := by
        rw [← List.length_map (f := fun p : Key × V => keyI p.1) (as := kvs), List.take_length]
      rw [hfull] at g5 g6
      have hkey : ∀ s, s ∈ (kvs.map fun p => keyI p.1) ↔ grp (prs qs) s ≠ [] := fun s => by
        rw [gd.dm.keysI.2 s]
        unfold gf
        by_cases h : grp (prs qs) s = [] <;> simp [h]
      have hD2 : Hk D = none := gd.fd
      have pD : p ≠ D := fun z => by rw [z] at hp2; rw [S3 _ _ hp2] at hD2; cases hD2
      have hp4 := g2 _ _ pD (S23 _ _ hp2)
      refine ⟨.ref p, rfl, p, C, dx, _, rfl, hp4, CC.cl, CC.n3, (by show 2 < 1000; decide), ?_⟩
      have SF : Same H0 (upd H4 p (.ins C dx (putF "open_steps" (.ref O) (putF "arrows" (.ref a) (putF "states" (.int n) []))))) := fun b o hb => by
        have hbk := S3 _ _ (S2 b o hb)
        rw [upd_ne (S0p b o hb)]
        exact g2 b o (ne_of_none hbk hD2) (gd.same _ _ hbk)
      have Op : O ≠ p := fun z => by rw [z, hp4] at g3; cases g3
      refine q _ SF ⟨⟨dx, O, upd_same, ⟨kvO, tp, qs, by rw [upd_ne Op]; exact g3, g5.congr fun s => ?_, fun s hs => ?_, hq, fun z hz => ?_⟩⟩, sameT' SF hS, hR.mono SF⟩
      · unfold gf
        by_cases h : grp (prs qs) s = []
        · rw [if_pos h, if_neg fun z => (hkey s).mp z h]
        · rw [if_neg h, if_pos ((hkey s).mpr h)]
      · have h6 := g6 s ((hkey s).mpr hs)
        rw [upd_ne fun z => by rw [z, hp4] at h6; cases h6]
        exact h6
      · have h3 := hst z hz
        have hz4 := g2 _ _ (ne_of_none h3 hD2) (gd.same _ _ h3)
        rw [upd_ne fun x => by rw [x, hp4] at hz4; cases hz4]
        exact hz4
end
end CH

/-! Rows in order, charts that grew, loop arrows as a Bool: plain Lean. -/
namespace K24
open PySem L2 KS GL LB K24m ML
open CH (outs sucs take_row row_at sameT' gd_get labelB arrowB ChartOk)
open PySem.Spec hiding Row
open PyProof.Rows hiding cnt
def rowLt (r q : Row) : Prop := r.1 < q.1 ∨ (r.1 = q.1 ∧ (r.2.1.cps.toList < q.2.1.cps.toList ∨ (r.2.1 = q.2.1 ∧ r.2.2 < q.2.2)))
theorem eqv_int (x y : Int) : PyData.eqv (.int x) (.int y) = decide (x = y) := by
  rw [Bool.eq_iff_iff, decide_eq_true_eq]
  simp [PyData.eqv]
theorem eqv_str (x y : Str) : PyData.eqv (.str x) (.str y) = decide (x = y) := by
  rw [Bool.eq_iff_iff, decide_eq_true_eq]
  simp [PyData.eqv]
theorem dataLt_row (r q : Row) : W.dataLt (rowD r) (rowD q) = true ↔ rowLt r q := by
  obtain ⟨a, b, c⟩ := r
  obtain ⟨a', b', c'⟩ := q
  have k1 : W.alike (.int a) (.int a') = true := by simp [W.alike]
  have k2 : W.alike (.str b) (.str b') = true := by simp [W.alike]
  have k3 : W.alike (.int c) (.int c') = true := by simp [W.alike]
  unfold rowD rowLt
  rw [W.dataLt_tuple]
  dsimp only
  by_cases h1 : a = a'
  · subst h1
    rw [W.dataLt_all_yes k1 (by rw [eqv_int]; simp)]
    by_cases h2 : b = b'
    · subst h2
      rw [W.dataLt_all_yes k2 (by rw [eqv_str]; simp)]
      by_cases h3 : c = c'
      · subst h3
        rw [W.dataLt_all_yes k3 (by rw [eqv_int]; simp)]
        have irr : ¬ b.cps.toList < b.cps.toList := List.lt_irrefl _
        constructor
        · intro h
          exact absurd h (by decide)
        · rintro (h | ⟨_, h | ⟨_, h⟩⟩)
          · exact absurd h (Int.lt_irrefl _)
          · exact absurd h irr
          · exact absurd h (Int.lt_irrefl _)
      · rw [W.dataLt_all_no k3 (by rw [eqv_int]; simpa using h3), W.dataLt_int, decide_eq_true_eq]
        have irr : ¬ b.cps.toList < b.cps.toList := List.lt_irrefl _
        constructor
        · exact fun h => .inr ⟨rfl, .inr ⟨rfl, h⟩⟩
        · rintro (h | ⟨_, h | ⟨_, h⟩⟩)
          · exact absurd h (Int.lt_irrefl _)
          · exact absurd h irr
          · exact h
    · rw [W.dataLt_all_no k2 (by rw [eqv_str]; simpa using h2), W.dataLt_str]
      simp [h2]
  · rw [W.dataLt_all_no k1 (by rw [eqv_int]; simpa using h1), W.dataLt_int]
    simp [h1]
theorem row_tri {r q : Row} (h1 : ¬ rowLt r q) (h2 : ¬ rowLt q r) : r = q := by
  obtain ⟨a, b, c⟩ := r
  obtain ⟨a', b', c'⟩ := q
  unfold rowLt at h1 h2
  dsimp only at h1 h2
  have e1 : a = a' := by omega
  subst e1
  have e2 : b.cps.toList = b'.cps.toList := by
    have n1 : ¬ b.cps.toList < b'.cps.toList := fun z => h1 (.inr ⟨rfl, .inl z⟩)
    have n2 : ¬ b'.cps.toList < b.cps.toList := fun z => h2 (.inr ⟨rfl, .inl z⟩)
    exact List.le_antisymm (List.not_lt.mp n2) (List.not_lt.mp n1)
  have e3 : b = b' := by
    cases b
    cases b'
    simp at e2
    rw [e2]
  subst e3
  have e4 : c = c' := by
    have n1 : ¬ c < c' := fun z => h1 (.inr ⟨rfl, .inr ⟨rfl, z⟩⟩)
    have n2 : ¬ c' < c := fun z => h2 (.inr ⟨rfl, .inr ⟨rfl, z⟩⟩)
    omega
  subst e4
  rfl
theorem strict_of {rs : List (Addr × Row)} (pw : rs.Pairwise fun q r => W.dataLt (rowD r.2) (rowD q.2) = false) (nd : (rs.map (·.2)).Nodup) : ∀ i (h : i + 1 < (rs.map (·.2)).length), W.dataLt (rowD (rs.map (·.2))[i]) (rowD (rs.map (·.2))[i + 1]) = true := by
  intro i h
  have h' : i + 1 < rs.length := by rwa [List.length_map] at h
  have h1 := List.pairwise_iff_getElem.mp pw i (i + 1) (by omega) h' (by omega)
  have h2 := List.pairwise_iff_getElem.mp nd i (i + 1) (by omega) h (by omega)
  rw [List.getElem_map, List.getElem_map] at h2 ⊢
  rw [dataLt_row]
  refine Classical.byContradiction fun no => h2 (row_tri no fun z => ?_)
  rw [(dataLt_row _ _).mpr z] at h1
  cases h1
theorem mem_sucs {R : List Row} {s t : Int} : t ∈ sucs R s ↔ t ≠ -1 ∧ ∃ l, (s, l, t) ∈ R := by
  unfold sucs outs
  rw [List.mem_filter, decide_eq_true_eq, List.mem_map, and_comm]
  refine and_congr Iff.rfl ⟨?_, ?_⟩
  · rintro ⟨⟨a, b, c⟩, h, rfl⟩
    have := List.mem_filter.mp h
    have h2 : a = s := of_decide_eq_true this.2
    exact ⟨b, h2 ▸ this.1⟩
  · rintro ⟨l, h⟩
    exact ⟨(s, l, t), List.mem_filter.mpr ⟨h, decide_eq_true rfl⟩, rfl⟩
theorem Rch.mono {f g : Int → List Int} (h : ∀ x y, y ∈ f x → y ∈ g x) {x y : Int} (r : Rch f x y) : Rch g x y := by
  induction r with
  | refl => exact .refl
  | step _ hz ih => exact .step ih (h _ _ hz)
theorem sucs_mono {R R' : List Row} (h : ∀ r ∈ R, r ∈ R') : ∀ x y, y ∈ sucs R x → y ∈ sucs R' x := fun x y hy => by
  obtain ⟨h1, l, h2⟩ := mem_sucs.mp hy
  exact mem_sucs.mpr ⟨h1, l, h _ h2⟩
structure GrOk (R : List Row) (n : Nat) : Prop where
  pos : 1 ≤ n
  arr : ∀ r ∈ R, (0 ≤ r.1 ∧ r.1 < n) ∧ (-1 ≤ r.2.2 ∧ r.2.2 < n) ∧ labelB r.2.1 = true
  all : ∀ m : Nat, m < n → Rch (sucs R) 0 m
theorem GrOk.init : GrOk [] 1 := ⟨Nat.le_refl _, fun _ h => (nomatch h), fun m hm => by
  obtain rfl : m = 0 := by omega
  exact .refl⟩
theorem GrOk.add {R : List Row} {n : Nat} (g : GrOk R n) {r : Row} (h : (0 ≤ r.1 ∧ r.1 < n) ∧ (-1 ≤ r.2.2 ∧ r.2.2 < n) ∧ labelB r.2.1 = true) : GrOk (R ++ [r]) n :=
  ⟨g.pos, fun x hx => by
    rcases List.mem_append.mp hx with z | z
    · exact g.arr x z
    · rw [List.mem_singleton.mp z]; exact h, fun m hm => Rch.mono (sucs_mono fun x hx => List.mem_append_left _ hx) (g.all m hm)⟩
theorem GrOk.grow {R : List Row} {n : Nat} (g : GrOk R n) {x : Int} {l : Str} (h1 : 0 ≤ x) (h2 : x < n) (hl : labelB l = true) : GrOk (R ++ [(x, l, (n : Int))]) (n + 1) := by
  have sm : ∀ m : Nat, m < n → Rch (sucs (R ++ [(x, l, (n : Int))])) 0 m := fun m hm => Rch.mono (sucs_mono fun x hx => List.mem_append_left _ hx) (g.all m hm)
  refine ⟨by omega, fun y hy => ?_, fun m hm => ?_⟩
  · rcases List.mem_append.mp hy with z | z
    · obtain ⟨a, b, c⟩ := g.arr y z
      exact ⟨⟨a.1, by omega⟩, ⟨b.1, by omega⟩, c⟩
    · rw [List.mem_singleton.mp z]
      exact ⟨⟨h1, by simp only; omega⟩, ⟨by simp only; omega, by simp only; omega⟩, hl⟩
  · by_cases e : m = n
    · subst e
      obtain ⟨k, rfl⟩ : ∃ k : Nat, x = (k : Int) := ⟨x.toNat, by omega⟩
      exact .step (sm k (by omega)) (mem_sucs.mpr ⟨by omega, l, List.mem_append_right _ (List.mem_singleton.mpr rfl)⟩)
    · exact sm m (by omega)
theorem GrOk.same {R R' : List Row} {n : Nat} (g : GrOk R n) (h : ∀ r, r ∈ R' ↔ r ∈ R) : GrOk R' n := ⟨g.pos, fun r hr => g.arr r ((h r).mp hr), fun m hm => Rch.mono (sucs_mono fun r hr => (h r).mpr hr) (g.all m hm)⟩
theorem GrOk.chart {R : List Row} {n : Nat} (g : GrOk R n) (ord : ∀ i (h : i + 1 < R.length), W.dataLt (rowD R[i]) (rowD R[i + 1]) = true) : ChartOk n R :=
  ⟨g.pos, fun r hr => by
    obtain ⟨a, b, c⟩ := g.arr r hr
    unfold arrowB
    simp [a, b, c], ord, g.all⟩
def signs : List Str := ["a", "a", "b", "c", "ab", "zzzzzzzz"]
theorem sign_ok : ∀ l ∈ signs, l.length ≤ 8 ∧ PyData.strOk l = true ∧ labelB l = true := by decide +kernel
theorem rowLt_trans {a b c : Row} (h1 : rowLt a b) (h2 : rowLt b c) : rowLt a c := by
  obtain ⟨a1, a2, a3⟩ := a
  obtain ⟨b1, b2, b3⟩ := b
  obtain ⟨c1, c2, c3⟩ := c
  unfold rowLt at *
  dsimp only at *
  rcases h1 with h1 | ⟨rfl, h1⟩
  · rcases h2 with h2 | ⟨rfl, h2⟩
    · exact .inl (by omega)
    · exact .inl h1
  · rcases h2 with h2 | ⟨rfl, h2⟩
    · exact .inl h2
    · refine .inr ⟨rfl, ?_⟩
      rcases h1 with h1 | ⟨rfl, h1⟩
      · rcases h2 with h2 | ⟨rfl, h2⟩
        · exact .inl (List.lt_trans h1 h2)
        · exact .inl h1
      · rcases h2 with h2 | ⟨rfl, h2⟩
        · exact .inl h2
        · exact .inr ⟨rfl, by omega⟩
theorem rowLt_irrefl (a : Row) : ¬ rowLt a a := by
  unfold rowLt
  rintro (h | ⟨_, h | ⟨_, h⟩⟩)
  · omega
  · exact List.lt_irrefl _ h
  · omega
theorem sorted_eq : ∀ {l m : List Row}, l.Pairwise rowLt → m.Pairwise rowLt → (∀ x, x ∈ l ↔ x ∈ m) → l = m
  | [], [], _, _, _ => rfl
  | [], y :: m, _, _, h => by have := (h y).mpr List.mem_cons_self; cases this
  | x :: l, [], _, _, h => by have := (h x).mp List.mem_cons_self; cases this
  | x :: l, y :: m, pl, pm, h => by
    have pl' := List.pairwise_cons.mp pl
    have pm' := List.pairwise_cons.mp pm
    have e : x = y := by
      rcases List.mem_cons.mp ((h x).mp List.mem_cons_self) with e | hx
      · exact e
      · rcases List.mem_cons.mp ((h y).mpr List.mem_cons_self) with e | hy
        · exact e.symm
        · exact absurd (rowLt_trans (pl'.1 y hy) (pm'.1 x hx)) (rowLt_irrefl _)
    subst e
    rw [sorted_eq pl'.2 pm'.2 fun z => ?_]
    constructor
    · intro hz
      rcases List.mem_cons.mp ((h z).mp (List.mem_cons_of_mem _ hz)) with rfl | hm
      · exact absurd (pl'.1 z hz) (rowLt_irrefl _)
      · exact hm
    · intro hz
      rcases List.mem_cons.mp ((h z).mpr (List.mem_cons_of_mem _ hz)) with rfl | hm
      · exact absurd (pm'.1 z hz) (rowLt_irrefl _)
      · exact hm
theorem strict_pw {rs : List (Addr × Row)} (pw : rs.Pairwise fun q r => W.dataLt (rowD r.2) (rowD q.2) = false) (nd : (rs.map (·.2)).Nodup) : (rs.map (·.2)).Pairwise rowLt := by
  rw [List.pairwise_map]
  have nd' := List.pairwise_map.mp nd
  refine (pw.and nd').imp fun {a b} h => ?_
  refine Classical.byContradiction fun no => h.2 (row_tri no fun z => ?_)
  rw [(dataLt_row _ _).mpr z] at h
  exact absurd h.1 (by decide)
theorem row_ext {a b : Row} : a = b ↔ a.1 = b.1 ∧ a.2.1 = b.2.1 ∧ a.2.2 = b.2.2 := by
  obtain ⟨a1, a2, a3⟩ := a
  obtain ⟨b1, b2, b3⟩ := b
  simp
theorem strict_rows {R : List Row} (pw : R.Pairwise fun a b => W.dataLt (rowD b) (rowD a) = false) (nd : R.Nodup) : R.Pairwise rowLt := by
  refine (pw.and nd).imp fun {a b} h => ?_
  refine Classical.byContradiction fun no => h.2 (row_tri no fun z => ?_)
  rw [(dataLt_row _ _).mpr z] at h
  exact absurd h.1 (by decide)
theorem ord_rows : ∀ {R : List Row}, R.Pairwise rowLt → ∀ i (h : i + 1 < R.length), W.dataLt (rowD R[i]) (rowD R[i + 1]) = true
  | [], _, i, h => absurd h (Nat.not_lt_zero _)
  | [a], _, i, h => by simp at h
  | a :: b :: R, p, 0, h => (dataLt_row _ _).mpr ((List.pairwise_cons.mp p).1 b List.mem_cons_self)
  | a :: b :: R, p, i + 1, h => ord_rows (R := b :: R) (List.pairwise_cons.mp p).2 i (Nat.lt_of_succ_lt_succ h)
end K24

/-! Rows in order, charts that grew, loop arrows as a Bool: plain Lean. -/
namespace K24
open PySem L2 KS GL LB K24m ML
open CH (outs sucs take_row row_at sameT' gd_get labelB arrowB ChartOk)
open PySem.Spec hiding Row
open PyProof.Rows hiding cnt
noncomputable def loopB (R : List Row) (r : Row) : Bool := @decide (LoopP R r) (Classical.propDecidable _)
theorem loopB_iff {R : List Row} {r : Row} : loopB R r = true ↔ LoopP R r := by
  unfold loopB
  exact @decide_eq_true_iff _ (Classical.propDecidable _)
theorem mem_avs {R : List Row} {v s t : Int} : t ∈ avs R v s ↔ (t ≠ -1 ∧ t ≠ v) ∧ ∃ l, (s, l, t) ∈ R := by
  unfold avs outs
  rw [List.mem_filter, decide_eq_true_eq, List.mem_map, and_comm]
  refine and_congr Iff.rfl ⟨?_, ?_⟩
  · rintro ⟨⟨a, b, c⟩, h, rfl⟩
    have := List.mem_filter.mp h
    have h2 : a = s := of_decide_eq_true this.2
    exact ⟨b, h2 ▸ this.1⟩
  · rintro ⟨l, h⟩
    exact ⟨(s, l, t), List.mem_filter.mpr ⟨h, decide_eq_true rfl⟩, rfl⟩
theorem edges_row {a b : Int} : ∀ {l : List Row}, (a, b) ∈ edges l → b ≠ -1 ∧ ∃ lb, (a, lb, b) ∈ l
  | [], h => (nomatch h)
  | r :: l, h => by
    unfold edges at h
    by_cases h1 : r.2.2 = -1
    · rw [if_pos h1] at h
      obtain ⟨h2, lb, h3⟩ := edges_row h
      exact ⟨h2, lb, List.mem_cons_of_mem _ h3⟩
    · rw [if_neg h1] at h
      rcases List.mem_cons.mp h with e | h
      · obtain ⟨rfl, rfl⟩ := Prod.mk.inj e
        exact ⟨h1, r.2.1, List.mem_cons_self⟩
      · obtain ⟨h2, lb, h3⟩ := edges_row h
        exact ⟨h2, lb, List.mem_cons_of_mem _ h3⟩
theorem row_edge {r : Row} : ∀ {l : List Row}, r ∈ l → r.2.2 ≠ -1 → (r.1, r.2.2) ∈ edges l
  | [], h, _ => (nomatch h)
  | q :: l, h, hne => by
    unfold edges
    rcases List.mem_cons.mp h with rfl | h
    · rw [if_neg hne]
      exact List.mem_cons_self
    · split
      · exact row_edge h hne
      · exact List.mem_cons_of_mem _ (row_edge h hne)
end K24

/-! Rows as data that are a list or a tuple; in, not in among whole numbers. -/
namespace K24
open PySem L2 KS GL LB K24m ML
open CH (outs sucs)
open PySem.Spec hiding Row
open PyProof.Rows hiding cnt
def seqD (d : PyData) (R : List Row) : Prop := d = .list (R.map rowD) ∨ d = .tuple (R.map rowD)
section
variable {K : PySem.W.Frag}
theorem seq_rows {H : Hp} {v : V} {d : PyData} {R : List Row} (h : Da K H v d) (e : seqD d R) : ∃ a rs, v = .ref a ∧ SqQ K H a (rowRefs rs) ∧ RowsAt K H rs ∧ rs.map (·.2) = R := by
  rcases e with rfl | rfl
  · cases h with
    | lst a1 a2 =>
      obtain ⟨rs, rfl, er, hR⟩ := unrow a2
      exact ⟨_, rs, rfl, .inl (.inl (.inl a1)), hR, er⟩
  · cases h with
    | tup a1 a2 =>
      obtain ⟨rs, rfl, er, hR⟩ := unrow a2
      exact ⟨_, rs, rfl, .inr a1, hR, er⟩
theorem row_one {H : Hp} {v : V} {r : Row} (h : Da K H v (rowD r)) : ∃ p, v = .ref p ∧ SqT K H p (rowV r) := by
  have h' : DaAll K H [v] ([r].map rowD) := .cons h .nil
  obtain ⟨qs, e1, e2, hQ⟩ := unrow h'
  match qs, e1, e2 with
  | [(p, r')], e1, e2 =>
    obtain rfl : r' = r := by simpa using e2
    obtain rfl : v = .ref p := by simpa [rowRefs] using e1
    exact ⟨p, rfl, hQ _ List.mem_cons_self⟩
theorem in_ints (s : Int) : ∀ ns : List Int, (ns.map PyData.int).any (fun y => PyData.eqv y (.int s)) = decide (s ∈ ns)
  | [] => rfl
  | n :: ns => by
    rw [List.map_cons, List.any_cons, in_ints s ns, eqv_int, Bool.eq_iff_iff, Bool.or_eq_true, decide_eq_true_eq, decide_eq_true_eq, decide_eq_true_eq, List.mem_cons]
    exact or_congr ⟨Eq.symm, Eq.symm⟩ Iff.rfl
theorem flat_intsD : ∀ ns : List Int, (ns.map PyData.int).all flatD = true
  | [] => rfl
  | n :: ns => by
    rw [List.map_cons, List.all_cons, flat_intsD ns]
    rfl
theorem op_inI {ρ : MS} {Q : Rt → MS → Prop} {r1 r2 : Rt} {s : Int} {ds : List PyData} (ns : List Int) (e : ds = ns.map PyData.int) (h1 : rd K ρ r1 (.int s)) (h2 : rdS K ρ r2 ds) (q : Q (.val (dat K (.bool (decide (s ∈ ns))))) ρ) : opR (rIn K false) r1 r2 ρ Q := by
  subst e
  refine op_in h1 h2 rfl (flat_intsD ns) ?_
  rw [if_neg Bool.false_ne_true, in_ints]
  exact q
theorem op_ninI {ρ : MS} {Q : Rt → MS → Prop} {r1 r2 : Rt} {s : Int} {ds : List PyData} (ns : List Int) (e : ds = ns.map PyData.int) (h1 : rd K ρ r1 (.int s)) (h2 : rdS K ρ r2 ds) (q : Q (.val (dat K (.bool (!decide (s ∈ ns))))) ρ) : opR (rIn K true) r1 r2 ρ Q := by
  subst e
  refine op_in h1 h2 rfl (flat_intsD ns) ?_
  rw [if_pos rfl, in_ints]
  exact q
theorem ev_dinI {ρ : MS} {Q : Rt → MS → Prop} {ty td : TE} (h : ev ty ρ fun r2 ρ2 => ∃ x, r2 = .val (dat K (.int x)) ∧ ev td ρ2 fun r1 ρ1 => ∃ m, rdD K ρ1 r1 m ∧ Q (.val (dat K (.bool (mget m (Sum.inl x)).isSome))) ρ1) : ev (tDIn ty td) ρ Q :=
  ev_din (ev_mono h fun _ _ ⟨x, e, h1⟩ => ev_mono h1 fun _ _ ⟨m, hm, q⟩ => ⟨m, Sum.inl x, hm, e, q⟩)
theorem ev_dninI {ρ : MS} {Q : Rt → MS → Prop} {ty td : TE} (h : ev ty ρ fun r2 ρ2 => ∃ x, r2 = .val (dat K (.int x)) ∧ ev td ρ2 fun r1 ρ1 => ∃ m, rdD K ρ1 r1 m ∧ Q (.val (dat K (.bool (!(mget m (Sum.inl x)).isSome)))) ρ1) : ev (tDNotIn ty td) ρ Q :=
  ev_dnotin (ev_mono h fun _ _ ⟨x, e, h1⟩ => ev_mono h1 fun _ _ ⟨m, hm, q⟩ => ⟨m, Sum.inl x, hm, e, q⟩)
theorem sat_three {P Q R : Pd} {vs : List V} {H0 H : Hp} {G : FP} (S : Sat [some (pu P), some (pu Q), some (pu R)] (vs.map some) H0 H G) : ∃ v w x, vs = [v, w, x] ∧ P.p H0 v ∧ Q.p H0 w ∧ R.p H0 x := by
  have hl := S.len
  obtain ⟨v, f, e1, r, d⟩ := S.get (i := 0) (R := pu P) rfl
  obtain ⟨w, g, e2, q, _⟩ := S.get (i := 1) (R := pu Q) rfl
  obtain ⟨x, g3, e3, q3, _⟩ := S.get (i := 2) (R := pu R) rfl
  match vs, hl with
  | [v', w', x'], _ =>
    obtain rfl : v' = v := Option.some.inj (Option.some.inj e1)
    obtain rfl : w' = w := Option.some.inj (Option.some.inj e2)
    obtain rfl : x' = x := Option.some.inj (Option.some.inj e3)
    exact ⟨v', w', x', rfl, r.1, q.1, q3.1⟩
end
end K24

/-! The old promises of loopsaid.loops, by what is known. -/
namespace K24
open PySem L2 KS GL LB K24m ML
open CH (outs sucs)
open PySem.Spec hiding Row
open PyProof.Rows hiding cnt
def nextsP (R : List Row) : Pd := ⟨fun H v => ∃ (Hk : Hp) (D : Addr) (kvs : List (Key × V)) (pt : Int → Addr), v = .ref D ∧ GD Hk H D kvs (nx R) pt,
  fun {H H' v} ⟨Hk, D, kvs, pt, e, g⟩ s => ⟨Hk, D, kvs, pt, e, ⟨g.same.trans s, g.fd, s _ _ g.at_, g.dm, g.fl, fun k hk => s _ _ (g.l k hk), g.inj⟩⟩⟩
section
variable {K : PySem.W.Frag}
def nextsM (K : PySem.W.Frag) : MSp := fun Rs q => ∃ (d : PyData) (R : List Row), Rs = [dat K d] ∧ seqD d R ∧ R.length ≤ 76 ∧ q (pu (nextsP R)) []
def fromM (K : PySem.W.Frag) : MSp := fun Rs q => ∃ (R : List Row) (st av : Int), Rs = [pu (nextsP R), dat K (.int st), dat K (.int av)] ∧ R.length ≤ 76 ∧
  ∀ F : List Int, (∀ x, x ∈ F ↔ Rch (avs R av) st x) → q (ddk K (F.map fun x => ((Sum.inl x : Key), PyData.bool true))) []
def hasM (K : PySem.W.Frag) : MSp := fun Rs q => ∃ (d : PyData) (R : List Row), Rs = [dat K d] ∧ seqD d R ∧ R.length ≤ 76 ∧ ∀ b : Bool, (b = true ↔ Cyc (edges R)) → q (dat K (.bool b)) []
abbrev S_nexts_of (K : PySem.W.Frag) : Sp := spOf 0 (nextsM K)
abbrev S_states_from (K : PySem.W.Frag) : Sp := spOf 0 (fromM K)
abbrev S_has_cycle (K : PySem.W.Frag) : Sp := spOf 0 (hasM K)
theorem nexts_conv (vs : List V) (H : Hp) (Q : VK) (E : XK) (h : S_nexts_of K vs H Q E) : spNexts K vs H Q E := by
  obtain ⟨Rs, H0, G, q, S, ⟨d, R, rfl, hd, hl, hq⟩, fin⟩ := h
  obtain ⟨v, rfl, p⟩ := sat_one S
  obtain ⟨a, rs, rfl, hS, hR, er⟩ := seq_rows p hd
  refine ⟨a, rs, rfl, hS.mono S.same, hR.mono S.same, by rw [← List.length_map (f := (·.2)) (as := rs), er]; omega, fun D kvs pt H' g => ?_⟩
  obtain ⟨x1, x2⟩ := fin_new S g.same
  rw [er] at g
  refine fin _ _ hq _ (fun _ => False) _ H' x1 ⟨⟨H0, D, kvs, pt, rfl, ⟨x1.s0, S.same.free g.fd, by rw [now_new g.fd]; exact g.at_, g.dm, fun k hk => S.same.free (g.fl k hk), fun k hk => by rw [now_new (g.fl k hk)]; exact g.l k hk, g.inj⟩⟩, fun _ h => h⟩ (fun _ h => h.elim) x2
/-- a dict that says True of the members of a set -/
theorem dm_set {kvs : List (Key × V)} {F : List Int} (d : DM kvs (setf F)) : ∃ F' : List Int, kvs = F'.map (fun x => ((Sum.inl x : Key), V.bl true)) ∧ ∀ x, x ∈ F' ↔ x ∈ F := by
  refine ⟨kvs.map fun p => keyI p.1, ?_, fun x => ?_⟩
  · rw [List.map_map]
    refine (List.map_id' kvs).symm.trans (List.map_congr_left fun p hp => ?_)
    obtain ⟨s, hs⟩ := d.isI p hp
    obtain ⟨k, v⟩ := p
    dsimp only at hs
    subst hs
    have hv := d.mem.mp hp
    unfold setf at hv
    split at hv
    · rw [← Option.some.inj hv]
      rfl
    · cases hv
  · rw [d.keysI.2 x]
    unfold setf
    by_cases h : x ∈ F <;> simp [h]
theorem dk_true {H : Hp} : ∀ F : List Int, DkAll K H (F.map fun x => ((Sum.inl x : Key), V.bl true)) (F.map fun x => ((Sum.inl x : Key), PyData.bool true))
  | [] => .nil
  | _ :: F => .cons (.bl true) (dk_true F)
theorem get_true (F : List Int) (x : Int) : (mget (F.map fun x => ((Sum.inl x : Key), PyData.bool true)) (Sum.inl x)).isSome = decide (x ∈ F) := by
  rw [← mget_any, List.any_map, Bool.eq_iff_iff, List.any_eq_true, decide_eq_true_eq]
  constructor
  · rintro ⟨y, hy, e⟩
    have : y = x := by simpa using e
    exact this ▸ hy
  · exact fun h => ⟨x, h, by simp⟩
theorem from_conv (vs : List V) (H : Hp) (Q : VK) (E : XK) (h : S_states_from K vs H Q E) : spFrom vs H Q E := by
  obtain ⟨Rs, H0, G, q, S, ⟨R, st, av, rfl, hl, hq⟩, fin⟩ := h
  obtain ⟨v, w, x, rfl, p1, p2, p3⟩ := sat_three S
  cases p2
  cases p3
  obtain ⟨Hk, D, kvs, pt, rfl, g⟩ := p1
  refine ⟨Hk, D, kvs, pt, R, st, av, rfl, ⟨g.same.trans S.same, g.fd, S.same _ _ g.at_, g.dm, g.fl, fun k hk => S.same _ _ (g.l k hk), g.inj⟩, by omega, fun d kv F H' s h0 h1 dm nd hF => ?_⟩
  obtain ⟨x1, x2⟩ := fin_new S s
  obtain ⟨F', rfl, hF'⟩ := dm_set dm
  exact fin _ _ (hq F' fun x => (hF' x).trans (hF x)) _ (fun _ => False) _ H' x1 ⟨⟨d, _, rfl, by rw [now_new h0]; exact h1, dk_true F'⟩, fun _ h => h⟩ (fun _ h => h.elim) x2
theorem has_conv (vs : List V) (H : Hp) (Q : VK) (E : XK) (h : S_has_cycle K vs H Q E) : spHas K vs H Q E := by
  obtain ⟨Rs, H0, G, q, S, ⟨d, R, rfl, hd, hl, hq⟩, fin⟩ := h
  obtain ⟨v, rfl, p⟩ := sat_one S
  obtain ⟨a, rs, rfl, hS, hR, er⟩ := seq_rows p hd
  refine ⟨a, rs, rfl, hS.mono S.same, hR.mono S.same, by rw [← List.length_map (f := (·.2)) (as := rs), er]; omega, fun b H' s hb => ?_⟩
  obtain ⟨x1, x2⟩ := fin_new S s
  rw [er] at hb
  exact fin _ _ (hq b hb) _ (fun _ => False) _ H' x1 ⟨.bl b, fun _ h => h⟩ (fun _ h => h.elim) x2
end
end K24

/-! Charts: made, asked for their arrows and states. -/
namespace K24
open PySem L2 KS GL LB K24m ML
open CH (outs sucs ChC ChartAt cf cf_arrows cf_states ChartOk spInit)
open PySem.Spec hiding Row
open PyProof.Rows hiding cnt
theorem _root_.ML.Sat.now {ρ : MS} {σ : L2.St} {H0 H H' : Hp} {G : FP} (S : Sat ρ σ H0 H G) (s : Same H H') : Sat ρ σ (nowH H0 H H') H' G := by
  refine S.mv (now_same S.same) (now_sub S.same s) fun a ha => ?_
  have hne : H a ≠ none ∧ H0 a = none := ha.elim (S.fr a) id
  refine ⟨?_, by unfold nowH; rw [if_neg hne.1]; exact hne.2⟩
  cases e : H a with
  | none => exact absurd e hne.1
  | some u => exact s a u e
def chartP (K : PySem.W.Frag) (C : Addr) (n : Nat) (R : List Row) : Pd := ⟨fun H v => ∃ (p dx a o : Addr) (rs : List (Addr × Row)), v = .ref p ∧ H p = some (.ins C dx (cf n a o)) ∧ SqT K H a (rowRefs rs) ∧ RowsAt K H rs ∧ rs.map (·.2) = R,
  fun {H H' v} ⟨p, dx, a, o, rs, e, h1, h2, h3, h4⟩ s => ⟨p, dx, a, o, rs, e, s _ _ h1, sqT_mono s h2, h3.mono s, h4⟩⟩
section
variable {K : PySem.W.Frag} {mg : Str → Option Value} {C : Addr} {ρ : MS} {Q : Rt → MS → Prop} {n : Nat} {R : List Row}
theorem ev_arrows {i : Nat} (CC : ChC K mg C) (h : ρ[i]? = some (some (pu (chartP K C n R)))) (q : Q (.val (dat K (.tuple (R.map rowD)))) ρ) : ev (tFld K (tVar i) "arrows") ρ Q := by
  intro σ H0 H G k S hk
  obtain ⟨v, f, e, ⟨⟨p, dx, a, o, rs, rfl, h1, h2, h3, rfl⟩, _⟩, _⟩ := S.get h
  refine ⟨.ref p, e, p, C, dx, _, .ref a, rfl, S.same _ _ h1, CC.cl, CC.n2, cf_arrows _ _ _, ?_⟩
  exact hk _ _ _ _ _ _ q (post_pure S (.tup h2 (da_rows h3)))
theorem ev_states {i : Nat} (CC : ChC K mg C) (h : ρ[i]? = some (some (pu (chartP K C n R)))) (q : Q (.val (dat K (.int n))) ρ) : ev (tFld K (tVar i) "states") ρ Q := by
  intro σ H0 H G k S hk
  obtain ⟨v, f, e, ⟨⟨p, dx, a, o, rs, rfl, h1, h2, h3, rfl⟩, _⟩, _⟩ := S.get h
  refine ⟨.ref p, e, p, C, dx, _, .int n, rfl, S.same _ _ h1, CC.cl, CC.n1, cf_states _ _ _, ?_⟩
  exact hk _ _ _ _ _ _ q (post_pure S (.int _))
theorem ev_make {ta : TA} (h : evD K ta ρ fun ds ρ1 => ∃ (n : Nat) (R : List Row), ds = [.int n, .tuple (R.map rowD)] ∧ R.length ≤ 200 ∧ ChartOk n R ∧ Q (.val (pu (chartP K C n R))) ρ1) : ev (tMake C (spInit K C) [] E0 ta) ρ Q := by
  intro σ H0 H G k S hk
  refine h σ H0 H G _ S fun ds ρ1 vs H1 H1' ⟨n, R, e, hl, ok, q⟩ e1 hds S1 x dx hx hdx hne => ?_
  subst e
  obtain ⟨⟩ | ⟨hn, hr⟩ := hds
  cases hn
  obtain ⟨⟩ | ⟨hr, ⟨⟩⟩ := hr
  cases hr with
  | tup a1 a2 =>
    obtain ⟨rs, rfl, er, hR⟩ := unrow a2
    subst er
    have s2 : Same H1' (upd (upd H1' dx (.own x)) x (.ins C dx [])) := (same_upd hdx).trans (same_upd (by rw [upd_ne fun z => hne z.symm]; exact hx))
    refine ⟨H1', x, dx, n, _, rs, rfl, s2, hx, upd_same, sqT_mono S1.same a1, hR.mono S1.same, by rw [← List.length_map (f := (·.2)) (as := rs)]; exact hl, ok, fun H' s hc => ⟨rfl, ?_⟩⟩
    obtain ⟨dx', o, hp, _⟩ := hc.ins
    have s0 := now_same (H' := H') S1.same
    have S2 := S1.now s
    refine hk _ _ _ (fun _ => False) _ _ q ⟨⟨e1.s0.trans s0, fun a ha => ?_⟩, ⟨⟨x, dx', _, o, rs, rfl, by rw [now_new hx]; exact hp, sqT_mono s0 a1, hR.mono s0, rfl⟩, fun _ h => h⟩, fun _ h => h.elim, S2.frame fun a ha => ha.resolve_right id⟩
    rw [← e1.fr a ha]
    cases e : H1' a with
    | none => exact absurd e (S1.fr a ha).1
    | some u => exact s a u e
end
end K24

/-! loopsaid.loops: is_loop_arrow, loops_among, loop_arrows, first_loop, live_arrows, without_arrow. -/
namespace K24
open PySem L2 KS GL LB K24m ML
open CH (outs sucs ChC ChartAt cf cf_arrows cf_states ChartOk spInit)
open PySem.Spec hiding Row
open PyProof.Rows hiding cnt
section
variable {P : Program} {w : World} {K : PySem.W.Frag} {mg : Str → Option Value} {base : Heap}
set_option hygiene false
local macro_rules | `(tactic| k_dat 0 "rd") => `(tactic| first | with_reducible apply rd.val | with_reducible apply rd.own | (apply rd.slot; apply Eq.refl) | (apply rd.slotL; apply Eq.refl))
local macro_rules | `(tactic| k_dat 0 "rdS") => `(tactic| first | with_reducible (apply rdS.l; apply rd.val) | with_reducible (apply rdS.t; apply rd.val) | with_reducible (apply rdS.l; apply rd.own) | (apply rdS.l; apply rd.slotL; apply Eq.refl) | (apply rdS.l; apply rd.slot; apply Eq.refl) | (apply rdS.t; apply rd.slot; apply Eq.refl))
local macro_rules | `(tactic| k_dat 0 "rdD") => `(tactic| first | with_reducible apply rdD.val | with_reducible apply rdD.own | (apply rdD.slot; apply Eq.refl) | (apply rdD.slotP; apply Eq.refl))
local macro_rules | `(tactic| k_dat 0 "sc") => `(tactic| first | apply Sc.int | apply Sc.bl | apply Sc.str | apply Sc.non)
local macro_rules | `(tactic| k_dat 0 "asD") => `(tactic| first | with_reducible apply asD.val | with_reducible apply asD.own | (apply asD.slot; apply Eq.refl))
local macro_rules | `(tactic| k_dat 0 "asX") => `(tactic| first | with_reducible apply asX.pure | with_reducible apply asX.own | (apply asX.slot; apply Eq.refl) | with_reducible apply asX.keep)
local macro_rules | `(tactic| k_dat 0 "nf") => `(tactic| first | (conv => arg 3; dsimp only [wipeM, List.set, List.map]) | skip)
local macro_rules | `(tactic| k_dat 0 "eq") => `(tactic| first | (dsimp only [wipeM, List.set, List.map]; done) | (dsimp only [wipeM, List.set, List.map]; apply Eq.refl) | apply Eq.refl)
local macro_rules | `(tactic| k_dat 0 "st") => `(tactic| first
  | ((with_reducible apply x_seq); k_dat 0 "nf") | ((with_reducible apply x_parT2); (case hi => omega); (case hj => omega)) | ((with_reducible apply x_asg2); (case hi => omega); (case hj => omega)) | ((with_reducible apply x_asg3); (case hi => omega); (case hj => omega); (case hl => omega)) | ((with_reducible apply x_par4); (case hi => omega); (case hj => omega); (case hk => omega); (case hl => omega)) | ((with_reducible apply x_par2); (case hij => omega); (case hi => omega); (case hj => omega)) | with_reducible first | (apply x_asg; case hl => decide) | apply x_drop | apply x_ret | apply x_next | apply x_break | apply x_cont
  | apply x_dput (K := K) | apply x_putN (K := K) | apply x_retN)
local macro_rules | `(tactic| k_dat 0 "ex") => `(tactic| with_reducible first
  | apply ev_int (K := K) | apply ev_str (K := K) | apply ev_bl (K := K) | apply ev_non (K := K)
  | apply ev_tup (K := K) | apply ev_lst (K := K) | apply ev_op | apply ev_un | apply ev_sset_rows (K := K) | apply ev_sset_ints (K := K) | apply ev_cb1 | apply ev_cb2 | apply ev_andV (K := K) | apply ev_orV (K := K) | apply ev_notV (K := K) | apply ev_if
  | apply ev_sl | apply evO_none | apply evO_some (K := K) | apply ev_rev | apply ev_bm1 | apply ev_bm0 | apply ev_dnew (K := K) | apply ev_disp (K := K) | apply ev_dget1 (K := K) | apply ev_dget2 (K := K) | apply ev_dinI (K := K) | apply ev_dninI (K := K) | apply ev_chainI (K := K)
  | apply ev_call | apply ev_call1
  | apply evD_nil | apply evD_cons | apply evA_nil | apply evA_x (K := K) | apply evPs_nil | apply evPs_cons
  | apply ev_dispN (K := K) | apply evPsN_nil | apply evPsN_cons | apply ev_ninN (K := K) | apply ev_ninR (K := K) | apply ev_dcR (K := K)
  | apply evT_val (K := K) | apply evT_B (K := K) | apply evT_and | apply evT_or | apply evT_not | apply evT_yes)
local macro_rules | `(tactic| k_dat 0 "vr") => `(tactic| first
  | ((with_reducible apply ev_var); (case h => apply Eq.refl)) | ((with_reducible apply ev_at); (case h => apply Eq.refl))
  | ((with_reducible apply x_augI); (case hi => decide); (case h0 => apply Eq.refl)))
local macro_rules | `(tactic| k_dat 0 "tg") => `(tactic| first
  | (with_reducible apply tg_name) | ((with_reducible apply tg_move); (case h => apply Eq.refl)) | ((with_reducible apply tg_tup); (case hn => rfl)) | (with_reducible apply tg_row) | (with_reducible apply tgs_nil) | (with_reducible apply tgs_consN))
local macro_rules | `(tactic| k_dat 0 "len") => `(tactic| ((first | apply lt_line | apply le_line); (try simp only [List.length_map, List.length_append, List.length_cons, List.length_nil, List.length_range]); omega))
local macro_rules | `(tactic| k_dat 0 "op") => `(tactic| first
  | ((with_reducible apply op_i0 (K := K)); (case h1 => k_dat 0 "rd"); (case h2 => k_dat 0 "rd"); (case hd => k_dat 0 "sc"))
  | ((with_reducible apply op_eqI (K := K)); (case h1 => k_dat 0 "rd"); (case h2 => k_dat 0 "rd")) | ((with_reducible apply op_neI (K := K)); (case h1 => k_dat 0 "rd"); (case h2 => k_dat 0 "rd"))
  | ((with_reducible apply op_eqS (K := K)); (case h1 => k_dat 0 "rd"); (case h2 => k_dat 0 "rd")) | ((with_reducible apply op_neS (K := K)); (case h1 => k_dat 0 "rd"); (case h2 => k_dat 0 "rd"))
  | ((with_reducible apply op_ixR0 (K := K)); (case h1 => k_dat 0 "rd"); (case h2 => k_dat 0 "rd")) | ((with_reducible apply op_ixR1 (K := K)); (case h1 => k_dat 0 "rd"); (case h2 => k_dat 0 "rd")) | ((with_reducible apply op_ixR2 (K := K)); (case h1 => k_dat 0 "rd"); (case h2 => k_dat 0 "rd"))
  | ((with_reducible apply un_i (K := K)); (case h1 => k_dat 0 "rd"); (case hd => k_dat 0 "sc"))
  | ((with_reducible apply un_len (K := K)); (case h => k_dat 0 "rdS")) | ((with_reducible apply un_list (K := K)); (case h => k_dat 0 "rdS")) | ((with_reducible apply un_tuple (K := K)); (case h => first | (apply rdS.l; k_dat 0 "rd") | (apply rdS.t; k_dat 0 "rd")))
  | ((with_reducible apply un_int (K := K)); (case h => k_dat 0 "rd")) | ((with_reducible apply un_lenD (K := K)); (case h => k_dat 0 "rdD")) | ((with_reducible apply un_listK (K := K)); (case h => k_dat 0 "rdD"))
  | ((with_reducible apply op_append (K := K)); (case hd => k_dat 0 "asD"); (case e => apply Eq.refl); (case hl => k_dat 0 "len"))
  | ((with_reducible apply op_cat_ (K := K)); (case h1 => k_dat 0 "rd"); (case h2 => k_dat 0 "rd"); (case hl => k_dat 0 "len"))
  | ((with_reducible apply op_max2 (K := K)); (case h1 => k_dat 0 "rd"); (case h2 => k_dat 0 "rd")) | ((with_reducible apply op_min2 (K := K)); (case h1 => k_dat 0 "rd"); (case h2 => k_dat 0 "rd"))
  | ((with_reducible apply sl_list_ (K := K)); (case h1 => k_dat 0 "rd")) | ((with_reducible apply sl_tup_ (K := K)); (case h1 => k_dat 0 "rd")))
local macro_rules | `(tactic| k_dat 0 "sp") => `(tactic| first
  | ((with_reducible (apply Exists.intro; apply And.intro)); (case left => with_reducible apply Eq.refl))
  | ((with_reducible (apply Exists.intro; apply And.intro)); (case left => first | k_dat 0 "rd" | k_dat 0 "rdD"))
  | ((with_reducible apply And.intro); (case left => (with_reducible apply Exists.intro); k_dat 0 "rdD"))
  | ((with_reducible (apply Exists.intro; apply Exists.intro; apply And.intro)); (case left => first | k_dat 0 "asD" | k_dat 0 "asX"))
  | ((with_reducible apply And.intro); (case left => apply len_le; apply Eq.refl))
  | ((with_reducible (apply Exists.intro (Sum.inl _); apply And.intro)); (case left => apply Eq.refl)) | ((with_reducible (apply Exists.intro (Sum.inr _); apply And.intro)); (case left => apply Eq.refl)))
local macro_rules | `(tactic| k_dat 0 "wk") => `(tactic| with_reducible first | apply x_forD (K := K) | apply x_lc (K := K) | apply wkD_list | apply wkD_tup | apply wkD_seq | apply wkD_rng1 | apply wkD_rng2 | apply wkD_str)
local macro_rules | `(tactic| k_dat 0 "ml1") => `(tactic| first | k_dat 0 "st" | k_dat 0 "ex" | k_dat 0 "wk" | k_dat 0 "vr" | k_dat 0 "tg" | k_dat 0 "op" | k_dat 0 "sp")
local macro_rules | `(tactic| k_dat 0 "ml") => `(tactic| repeat k_dat 0 "ml1")
def loopPM (K : PySem.W.Frag) : MSp := fun Rs q => ∃ (d : PyData) (R : List Row) (r : Row), Rs = [dat K d, pu (nextsP R), dat K (rowD r)] ∧ seqD d R ∧ R.length ≤ 76 ∧ q (dat K (.bool (loopB R r))) []
abbrev S_is_loop_arrow (K : PySem.W.Frag) : Sp := spOf 0 (loopPM K)
theorem scLoopP : FnScope ["arrows", "nexts", "arrow", "source", "label", "target", "there", "leaving", "one", "targets"] ["arrows", "nexts", "arrow"] (defScope sLoop) := ⟨rfl, rfl, rfl, by decide +kernel, rfl, by decide +kernel, by decide +kernel⟩
theorem ok_loopP {f : Addr} {fd : FuncData} (G : Fun K "is_loop_arrow" "is_loop_arrow" sLoop f fd) (gE : ∃ u, mg nENDl = some u ∧ RelV (.int (-1)) u) (hstates_from : HasM P w K mg base "states_from" 1 ["nexts", "first", "avoided"] (S_states_from K)) (hhas_cycle : HasM P w K mg base "has_cycle" 2 ["arrows"] (S_has_cycle K)) :
    FnG P w K mg base CX0 3 f fd ["arrows", "nexts", "arrow"] (S_is_loop_arrow K) := by
  refine fn_ml G scLoopP (fun Rs q ⟨_, _, _, h, _⟩ => by rw [h]; rfl) (by decide) fun cdv A outer s H E hrG => ?_
  have hr := hrG.room
  have hu := hu_of hr
  have hu64 := hr.units
  obtain ⟨u2, g2, r2⟩ := gE
  refine ⟨_, (pss_cons (ps_asg (pv 2) (pg_tup (n := 3) rfl (pgs_cons (pg_name (i := 3) scLoopP.nd rfl (Or.inr rfl)) (pgs_cons (pg_name (i := 4) scLoopP.nd rfl (Or.inl rfl)) (pgs_cons (pg_name (i := 5) scLoopP.nd rfl (Or.inl rfl)) pgs_nil)))))
  (pss_cons (ps_if (pt_cmpR op_in_seq (pv 5) (pe_tup (pa_cons (pe_glob rfl g2 r2) (pa_cons (pv 3) pa_nil))) (by rfl))
    (pss_one (ps_ret (pe_cmpR op_eq (pv 5) (pv 3) (nomark _))))
    pss_nil)
  (pss_cons (ps_set (i := 6) scLoopP.nd rfl (Or.inr rfl) (pe_hg hstates_from (hrG.mono (by decide)) rfl (pa_cons (pv 1) (pa_cons (pv 5) (pa_cons (pv 3) pa_nil)))))
  (pss_cons (ps_setLc (i := 7) (own := [("one", 8)]) (g := gName 8) (tt := (tB (tDIn (tOp (rIxT K) (tVar 8) _) (tVar 6)))) (te := (tVar 8)) rfl scLoopP.nd rfl rfl (sw_true rfl rfl rfl (by decide +kernel)) (pi_seq (pv 0)) (blkOk_by (own := [("one", 8)]) (N := ["arrows", "nexts", "arrow", "source", "label", "target", "there", "leaving", "one", "targets"]) (sc := defScope sLoop) (by decide +kernel)) (fun _ _ _ _ _ => (pg_name (i := 8) scLoopP.nd rfl (by first | exact Or.inl rfl | exact Or.inr rfl))) (fun _ _ _ _ _ => pts_one (pt_cmp (pc_din hu (pe_ix ix_tup (pv 8) pe_int (fun _ _ => rfl)) (pv 6)))) (fun _ _ _ _ _ => (pv 8)))
  (pss_cons (ps_setLc (i := 9) (own := [("one", 8)]) (g := gName 8) (tt := tYes) (te := (tOp (rIxT K) (tVar 8) _)) rfl scLoopP.nd rfl rfl (sw_true rfl rfl rfl (by decide +kernel)) (pi_list (pv 7)) (blkOk_by (own := [("one", 8)]) (N := ["arrows", "nexts", "arrow", "source", "label", "target", "there", "leaving", "one", "targets"]) (sc := defScope sLoop) (by decide +kernel)) (fun _ _ _ _ _ => (pg_name (i := 8) scLoopP.nd rfl (by first | exact Or.inl rfl | exact Or.inr rfl))) (fun _ _ _ _ _ => pts_nil) (fun _ _ _ _ _ => (pe_ix ix_tup (pv 8) pe_int (fun _ _ => rfl))))
  (pss_cons (ps_if (PW.pt (pw_or (pt_cmpR op_notIn_seq (pv 3) (pv 9) (by rfl)) (pw_or1 (pt_cmpR op_in_seq (pe_glob rfl g2 r2) (pv 9) (by rfl)))))
    (pss_one (ps_ret pe_bl))
    pss_nil)
  (pss_one (ps_ret (pe_not (pe_hg hhas_cycle (hrG.mono (by decide)) rfl (pa_cons (pe_lc (own := [("one", 8)]) (g := gName 8) (tt := (tTest (tOp _ (tOp (rIxT K) (tVar 8) _) (tVar 3)))) (te := (tVar 8)) rfl scLoopP.nd (pi_list (pv 7)) (blkOk_by (own := [("one", 8)]) (N := ["arrows", "nexts", "arrow", "source", "label", "target", "there", "leaving", "one", "targets"]) (sc := defScope sLoop) (by decide +kernel)) (fun _ _ _ _ _ => (pg_name (i := 8) scLoopP.nd rfl (by first | exact Or.inl rfl | exact Or.inr rfl))) (fun _ _ _ _ _ => pts_one (pt_cmpR op_ne (pe_ix ix_tup (pv 8) pe_int (fun _ _ => rfl)) (pv 3) (nomark _))) (fun _ _ _ _ _ => (pv 8))) pa_nil))))))))))), ?_⟩
  rintro Rs q ⟨d, R, r, rfl, hd, hl, hq⟩
  rw [outF_eq]
  try dsimp only [cxOf, Cx.nox, Cx.wish]
  show ML.ex 0 _ [some (dat K d), some (pu (nextsP R)), some (dat K (rowD r)), none, none, none, none, none, none, none] _
  k_dat 0 "ml"
  apply x_if
  k_dat 0 "ml"
  refine op_inI [-1, r.1] rfl rd.val (.t .val) ⟨_, rfl, fun h => ?_, fun h => ?_⟩
  · k_dat 0 "ml"
    refine ⟨_, [], ret_val rfl, ?_⟩
    have h1 : r.2.2 = -1 ∨ r.2.2 = r.1 := by simpa using h
    have e : loopB R r = decide (r.2.2 = r.1) := by
      rw [Bool.eq_iff_iff, loopB_iff, decide_eq_true_eq]
      unfold LoopP
      rw [if_pos h1]
    rw [← e]
    exact hq
  have h1 : ¬ (r.2.2 = -1 ∨ r.2.2 = r.1) := by simpa using h
  k_dat 0 "ml"
  refine c_zero [_, _, _] ⟨R, _, _, rfl, hl, fun F hF => ?_⟩
  k_dat 0 "ml"
  refine ⟨d, _, rfl, hd, ?_⟩
  refine lc_fm R rowD rfl (by omega) (fun e => decide (e.1 ∈ F)) rowD (fun e he => ⟨[8], by decide, ?_⟩) ?_
  · k_dat 0 "ml"
    rw [get_true]
    refine ⟨fun h => ?_, fun h => ⟨h, by k_dat 0 "eq"⟩⟩
    k_dat 0 "ml"
    exact ⟨h, rfl, by k_dat 0 "eq"⟩
  have hL : ∀ e, e ∈ (R.filter fun e => decide (e.1 ∈ F)) ↔ Lv R r.1 r.2.2 e := fun e => by
    rw [List.mem_filter, decide_eq_true_eq, hF]
    rfl
  have hLl : (R.filter fun e => decide (e.1 ∈ F)).length ≤ 76 := Nat.le_trans (List.length_filter_le _ _) hl
  generalize (R.filter fun e => decide (e.1 ∈ F)) = L at hL hLl
  k_dat 0 "ml"
  refine lc_fm L rowD rfl (by omega) (fun _ => true) (fun e => .int e.2.2) (fun e he => ⟨[8], by decide, ?_⟩) ?_
  · k_dat 0 "ml"
    refine ⟨fun _ => ?_, fun h => Bool.noConfusion h⟩
    k_dat 0 "ml"
    exact ⟨rfl, rfl, by k_dat 0 "eq"⟩
  have hT : ∀ x, x ∈ L.map (·.2.2) ↔ ∃ e, Lv R r.1 r.2.2 e ∧ e.2.2 = x := fun x => by
    rw [List.mem_map]
    exact ⟨fun ⟨e, h1, h2⟩ => ⟨e, (hL e).mp h1, h2⟩, fun ⟨e, h1, h2⟩ => ⟨e, (hL e).mpr h1, h2⟩⟩
  have eT : (L.filter fun _ => true).map (fun e => PyData.int e.2.2) = (L.map (·.2.2)).map PyData.int := by
    rw [List.filter_eq_self.mpr fun _ _ => rfl, List.map_map]
    rfl
  have no : ∀ {b : Bool}, b = false → ¬ LoopP R r → q (dat K (.bool b)) [] := fun {b} hb hn => by
    have e : loopB R r = b := by
      rw [hb, Bool.eq_false_iff]
      exact fun z => hn (loopB_iff.mp z)
    rw [← e]
    exact hq
  k_dat 0 "ml"
  apply x_if
  k_dat 0 "ml"
  refine op_ninI _ eT rd.val (.l (.slotL rfl)) ⟨_, rfl, fun h => ?_, fun h => ?_⟩
  · k_dat 0 "ml"
    refine ⟨fun _ => ?_, fun h => Bool.noConfusion h⟩
    k_dat 0 "ml"
    refine ⟨_, [], ret_val rfl, no rfl fun z => ?_⟩
    unfold LoopP at z
    rw [if_neg h1] at z
    have h2 : r.1 ∉ L.map (·.2.2) := by simpa using h
    exact h2 ((hT _).mpr z.1)
  have h2 : r.1 ∈ L.map (·.2.2) := of_decide_eq_true (by simpa using h)
  k_dat 0 "ml"
  refine op_inI _ eT rd.val (.l (.slotL rfl)) ⟨_, rfl, fun h => ?_, fun h => ?_⟩
  · k_dat 0 "ml"
    refine ⟨_, [], ret_val rfl, no rfl fun z => ?_⟩
    unfold LoopP at z
    rw [if_neg h1] at z
    exact z.2.1 ((hT _).mp (of_decide_eq_true h))
  have h3 : ¬ (-1 : Int) ∈ L.map (·.2.2) := of_decide_eq_false h
  k_dat 0 "ml"
  refine lc_fm L rowD rfl (by omega) (fun e => !decide (e.2.2 = r.1)) rowD (fun e he => ⟨[8], by decide, ?_⟩) ?_
  · k_dat 0 "ml"
    refine ⟨fun h => ?_, fun h => ⟨h, by k_dat 0 "eq"⟩⟩
    k_dat 0 "ml"
    exact ⟨h, rfl, by k_dat 0 "eq"⟩
  k_dat 0 "ml"
  refine c_zero [_] ⟨_, _, rfl, .inl rfl, Nat.le_trans (List.length_filter_le _ _) hLl, fun b hb => ?_⟩
  k_dat 0 "ml"
  refine ⟨_, [], ret_val rfl, ?_⟩
  have hml : ∀ e, e ∈ L.filter (fun e => !decide (e.2.2 = r.1)) ↔ Lv R r.1 r.2.2 e ∧ e.2.2 ≠ r.1 := fun e => by
    rw [List.mem_filter, hL]
    simp
  have e : loopB R r = !b := by
    rw [Bool.eq_iff_iff, loopB_iff]
    unfold LoopP
    rw [if_neg h1]
    constructor
    · rintro ⟨_, _, z⟩
      cases hbb : b with
      | false => rfl
      | true => exact absurd (hb.mp hbb) (z _ hml)
    · intro hnb
      refine ⟨(hT _).mp h2, fun z => h3 ((hT _).mpr z), fun l hl hc => ?_⟩
      have : b = true := hb.mpr ((Cyc.congr (edges_in fun r' => (hl r').trans (hml r').symm)).mp hc)
      rw [this] at hnb
      cases hnb
  rw [← e]
  exact hq
end
end K24

/-! Loop arrows taken away one after another: whatever the order, the rests have the same arrows on rings. Plain Lean. -/
namespace K24
open PySem L2 KS GL LB K24m ML
open CH (outs sucs)
open PySem.Spec hiding Row
open PyProof.Rows hiding cnt
abbrev R0 (R : List Row) : Int → Int → Prop := Rch (avs R (-1))
noncomputable def rchB (R : List Row) (v s x : Int) : Bool := @decide (Rch (avs R v) s x) (Classical.propDecidable _)
theorem rchB_iff {R : List Row} {v s x : Int} : rchB R v s x = true ↔ Rch (avs R v) s x := by
  unfold rchB
  exact @decide_eq_true_iff _ (Classical.propDecidable _)
/-- the rows that leave what is reached from 0 -/
noncomputable def liveR (R : List Row) : List Row := R.filter fun r => rchB R (-1) 0 r.1
theorem mem_liveR {R : List Row} {r : Row} : r ∈ liveR R ↔ r ∈ R ∧ R0 R 0 r.1 := by
  unfold liveR
  rw [List.mem_filter, rchB_iff]
def butR (R : List Row) (r : Row) : List Row := R.filter fun e => decide (e ≠ r)
theorem mem_butR {R : List Row} {r e : Row} : e ∈ butR R r ↔ e ∈ R ∧ e ≠ r := by
  unfold butR
  rw [List.mem_filter, decide_eq_true_eq]
noncomputable def aft (R : List Row) (r : Row) : List Row := liveR (butR R r)
inductive Rem : List Row → List Row → List Row → Prop
  | nil {R : List Row} : Rem R [] R
  | cons {R T rs : List Row} {r : Row} : r ∈ R → LoopP R r → Rem (aft R r) rs T → Rem R (r :: rs) T
def Done (T : List Row) : Prop := ∀ r ∈ T, ¬ LoopP T r
def Alive (T : List Row) : Prop := ∀ r ∈ T, R0 T 0 r.1
/-- on a ring -/
def Ring (T : List Row) (r : Row) : Prop := r.2.2 ≠ -1 ∧ R0 T r.2.2 r.1
noncomputable def ringB (T : List Row) (r : Row) : Bool := @decide (Ring T r) (Classical.propDecidable _)
theorem ringB_iff {T : List Row} {r : Row} : ringB T r = true ↔ Ring T r := by
  unfold ringB
  exact @decide_eq_true_iff _ (Classical.propDecidable _)
/-- from x one comes to an end or to a ring -/
def Leads (T : List Row) (x : Int) : Prop := ∃ y, R0 T x y ∧ ∃ e ∈ T, e.1 = y ∧ (e.2.2 = -1 ∨ Ring T e)
def Stay (T : List Row) (e : Row) : Prop := e ∈ T ∧ (e.2.2 = -1 ∨ Leads T e.2.2)
theorem _root_.LB.Rch.trans {f : Int → List Int} {x y z : Int} (h : Rch f x y) (g : Rch f y z) : Rch f x z := by
  induction g with
  | refl => exact h
  | step _ hz ih => exact .step ih hz
theorem _root_.LB.Rch.wide {R : List Row} {v s x : Int} (h : Rch (avs R v) s x) : R0 R s x :=
  Rch.mono (fun y z hz => by
    obtain ⟨⟨h1, h2⟩, h3⟩ := mem_avs.mp hz
    exact mem_avs.mpr ⟨⟨h1, h1⟩, h3⟩) h
section
variable {T L : List Row} {v : Int}
theorem Leads.back {x y : Int} (h : Leads T y) (g : R0 T x y) : Leads T x := by
  obtain ⟨z, h1, h2⟩ := h
  exact ⟨z, g.trans h1, h2⟩
theorem Leads.row {e : Row} (h : Stay T e) : Leads T e.1 := by
  obtain ⟨h1, h2⟩ := h
  rcases h2 with h2 | h2
  · exact ⟨e.1, .refl, e, h1, rfl, .inl h2⟩
  · by_cases hne : e.2.2 = -1
    · exact ⟨e.1, .refl, e, h1, rfl, .inl hne⟩
    · exact h2.back (.step .refl (mem_avs.mpr ⟨⟨hne, hne⟩, e.2.1, h1⟩))
theorem Leads.ring {e : Row} (h : e ∈ T) (g : Ring T e) : Leads T e.2.2 := ⟨e.1, g.2, e, h, rfl, .inr g⟩
theorem Stay.ring {e : Row} (h : e ∈ T) (g : Ring T e) : Stay T e := ⟨h, .inr (Leads.ring h g)⟩
/-- the way to what leads on stays -/
theorem way (hL : ∀ e, Stay T e → e ∈ L) {a b : Int} (h : Rch (avs T v) a b) : Leads T b → Rch (avs L v) a b := by
  induction h with
  | refl => exact fun _ => .refl
  | @step y z hy hz ih =>
    intro hl
    obtain ⟨hne, lb, hm⟩ := mem_avs.mp hz
    have h1 : R0 T y z := .step .refl (mem_avs.mpr ⟨⟨hne.1, hne.1⟩, lb, hm⟩)
    exact .step (ih (hl.back h1)) (mem_avs.mpr ⟨hne, lb, hL _ ⟨hm, .inr hl⟩⟩)
end
theorem ex_near (R : List Row) (v w : Int) : ∃ l : List Row, ∀ e, e ∈ l ↔ Lv R v w e ∧ e.2.2 ≠ v :=
  ⟨R.filter fun e => @decide _ (Classical.propDecidable (Rch (avs R v) w e.1 ∧ e.2.2 ≠ v)), fun e => by
    rw [List.mem_filter, @decide_eq_true_iff _ (Classical.propDecidable _)]
    unfold Lv
    exact (and_assoc).symm⟩
theorem path_r0 {R l : List Row} {x y : Int} (hl : ∀ e ∈ l, e ∈ R) (p : Path (edges l) x y) : R0 R x y := by
  have go : ∀ {a b : Int}, (a, b) ∈ edges l → R0 R a b := fun {a b} e => by
    obtain ⟨h1, lb, hm⟩ := edges_row e
    exact .step .refl (mem_avs.mpr ⟨⟨h1, h1⟩, lb, hl _ hm⟩)
  induction p with
  | one e => exact go e
  | cons e _ ih => exact (go e).trans ih
/-- a loop arrow of more is no row that leads on in a rest without one -/
theorem keep_one {T L : List Row} (dn : Done T) (hL : ∀ e, Stay T e → e ∈ L) {r : Row} (hr : LoopP L r) : ¬ Stay T r := by
  intro st
  have hrT := st.1
  refine dn r hrT ?_
  by_cases h1 : r.2.2 = -1 ∨ r.2.2 = r.1
  · unfold LoopP at hr ⊢
    rw [if_pos h1] at hr ⊢
    exact hr
  unfold LoopP at hr
  rw [if_neg h1] at hr
  obtain ⟨_, hb, hc⟩ := hr
  have h1a : r.2.2 ≠ -1 := fun z => h1 (.inl z)
  have h1b : r.2.2 ≠ r.1 := fun z => h1 (.inr z)
  -- no end
  have B : ¬ ∃ e, Lv T r.1 r.2.2 e ∧ e.2.2 = -1 := by
    rintro ⟨e, ⟨he, hn⟩, h2⟩
    have se : Stay T e := ⟨he, .inl h2⟩
    exact hb ⟨e, ⟨hL e se, way hL hn (Leads.row se)⟩, h2⟩
  -- no ring
  have C : ∀ l : List Row, (∀ e, e ∈ l ↔ Lv T r.1 r.2.2 e ∧ e.2.2 ≠ r.1) → ¬ Cyc (edges l) := by
    intro l hl
    obtain ⟨m, hm⟩ := ex_near L r.1 r.2.2
    have hlT : ∀ e ∈ l, e ∈ T := fun e he => ((hl e).mp he).1.1
    rintro ⟨x, hx⟩
    refine hc m hm ⟨x, ?_⟩
    have one : ∀ {a b : Int}, (a, b) ∈ edges l → R0 T b a → (a, b) ∈ edges m := fun {a b} e hba => by
      obtain ⟨h2, lb, hmem⟩ := edges_row e
      obtain ⟨⟨h3, h4⟩, h5⟩ := (hl _).mp hmem
      have rg : Ring T (a, lb, b) := ⟨h2, hba⟩
      have sy := Stay.ring h3 rg
      exact row_edge (r := (a, lb, b)) ((hm _).mpr ⟨⟨hL _ sy, way hL h4 (Leads.row sy)⟩, h5⟩) h2
    have go : ∀ {a b : Int}, Path (edges l) a b → R0 T b a → Path (edges m) a b := by
      intro a b p
      induction p with
      | one e => exact fun h => .one (one e h)
      | @cons a c b e p ih =>
        intro h
        have hac : R0 T a c := path_r0 hlT (.one e)
        exact .cons (one e ((path_r0 hlT p).trans h)) (ih (h.trans hac))
    exact go hx .refl
  unfold LoopP
  rw [if_neg h1]
  refine ⟨Classical.byContradiction fun no => ?_, B, C⟩
  -- a way back
  have nov : ∀ {a : Int}, Rch (avs T r.1) r.2.2 a → ∀ {b : Int}, b ∈ avs T (-1) a → b ∈ avs T r.1 a := fun {a} ha {b} hb => by
    obtain ⟨⟨h2, _⟩, lb, hm⟩ := mem_avs.mp hb
    exact mem_avs.mpr ⟨⟨h2, fun z => no ⟨(a, lb, b), ⟨hm, ha⟩, z⟩⟩, lb, hm⟩
  have nears : ∀ {a b : Int}, Rch (avs T r.1) r.2.2 a → R0 T a b → Rch (avs T r.1) r.2.2 b := fun {a b} ha h => by
    induction h with
    | refl => exact ha
    | step _ hz ih => exact .step ih (nov ih hz)
  rcases st.2 with h2 | ⟨y, hy, e, he, rfl, h3⟩
  · exact h1a h2
  have hn := nears .refl hy
  rcases h3 with h3 | h3
  · exact B ⟨e, ⟨he, hn⟩, h3⟩
  · obtain ⟨l, hl⟩ := ex_near T r.1 r.2.2
    have edge : ∀ {a b : Int}, Rch (avs T r.1) r.2.2 a → b ∈ avs T (-1) a → (a, b) ∈ edges l := fun {a b} ha hb => by
      obtain ⟨⟨h2, h4⟩, lb, hm⟩ := mem_avs.mp (nov ha hb)
      exact row_edge (r := (a, lb, b)) ((hl _).mpr ⟨⟨hm, ha⟩, h4⟩) h2
    have e1 : e.2.2 ∈ avs T (-1) e.1 := mem_avs.mpr ⟨⟨h3.1, h3.1⟩, e.2.1, he⟩
    have go : ∀ {b : Int}, R0 T e.2.2 b → Path (edges l) e.1 b := fun {b} h => by
      have : Rch (avs T r.1) r.2.2 b ∧ Path (edges l) e.1 b := by
        induction h with
        | refl => exact ⟨.step hn (nov hn e1), .one (edge hn e1)⟩
        | step _ hz ih => exact ⟨.step ih.1 (nov ih.1 hz), ih.2.trans (.one (edge ih.1 hz))⟩
      exact this.2
    exact C l hl ⟨e.1, go h3.2⟩
theorem keep_aft {T L : List Row} (dn : Done T) (al : Alive T) (hL : ∀ e, Stay T e → e ∈ L) {r : Row} (hr : LoopP L r) : ∀ e, Stay T e → e ∈ aft L r := fun e he => by
  have hb : ∀ e, Stay T e → e ∈ butR L r := fun e he => mem_butR.mpr ⟨hL e he, fun z => keep_one dn hL hr (z ▸ he)⟩
  exact mem_liveR.mpr ⟨hb e he, way hb (al e he.1) (Leads.row he)⟩
theorem keep_all {T R S gs : List Row} (dn : Done T) (al : Alive T) (h : Rem R gs S) : (∀ e, Stay T e → e ∈ R) → ∀ e, Stay T e → e ∈ S := by
  induction h with
  | nil => exact id
  | cons hm hl _ ih => exact fun hR => ih (keep_aft dn al hR hl)
theorem aft_sub {R : List Row} {r : Row} : (aft R r).Sublist R := (List.filter_sublist).trans List.filter_sublist
theorem Rem.sub {R T gs : List Row} (h : Rem R gs T) : T.Sublist R := by
  induction h with
  | nil => exact List.Sublist.refl _
  | cons _ _ _ ih => exact ih.trans aft_sub
theorem alive_live {R : List Row} : Alive (liveR R) := fun r hr => by
  obtain ⟨h1, h2⟩ := mem_liveR.mp hr
  clear hr h1
  generalize r.1 = x at h2
  induction h2 with
  | refl => exact .refl
  | step hy hz ih =>
    obtain ⟨hne, lb, hm⟩ := mem_avs.mp hz
    exact .step ih (mem_avs.mpr ⟨hne, lb, mem_liveR.mpr ⟨hm, hy⟩⟩)
theorem Rem.alive {R T gs : List Row} (h : Rem R gs T) : Alive R → Alive T := by
  induction h with
  | nil => exact id
  | cons _ _ _ ih => exact fun _ => ih alive_live
theorem ring_in {R T S g1 g2 : List Row} (al : Alive R) (h1 : Rem R g1 T) (d1 : Done T) (h2 : Rem R g2 S) {e : Row} (he : e ∈ T) (hr : Ring T e) : e ∈ S ∧ Ring S e := by
  have k := keep_all d1 (h1.alive al) h2 fun e he => h1.sub.subset he.1
  exact ⟨k e (Stay.ring he hr), hr.1, way k hr.2 (Leads.row (Stay.ring he hr))⟩
theorem rings_eq {R T S g1 g2 : List Row} (pw : R.Pairwise rowLt) (al : Alive R) (h1 : Rem R g1 T) (d1 : Done T) (h2 : Rem R g2 S) (d2 : Done S) : T.filter (ringB T) = S.filter (ringB S) := by
  refine sorted_eq ((pw.sublist h1.sub).filter _) ((pw.sublist h2.sub).filter _) fun e => ?_
  rw [List.mem_filter, List.mem_filter, ringB_iff, ringB_iff]
  exact ⟨fun ⟨a, b⟩ => ring_in al h1 d1 h2 a b, fun ⟨a, b⟩ => ring_in al h2 d2 h1 a b⟩
/-- taking away at once -/
theorem live_live {A : List Row} {p : Row → Bool} : liveR ((liveR A).filter p) = liveR (A.filter p) := by
  have key : ∀ x, R0 ((liveR A).filter p) 0 x ↔ R0 (A.filter p) 0 x := fun x => by
    constructor
    · refine Rch.mono fun y z hz => ?_
      obtain ⟨hne, lb, hm⟩ := mem_avs.mp hz
      have := List.mem_filter.mp hm
      exact mem_avs.mpr ⟨hne, lb, List.mem_filter.mpr ⟨(mem_liveR.mp this.1).1, this.2⟩⟩
    · intro h
      induction h with
      | refl => exact .refl
      | @step y z hy hz ih =>
        obtain ⟨hne, lb, hm⟩ := mem_avs.mp hz
        have := List.mem_filter.mp hm
        refine .step ih (mem_avs.mpr ⟨hne, lb, List.mem_filter.mpr ⟨mem_liveR.mpr ⟨this.1, ?_⟩, this.2⟩⟩)
        refine Rch.mono (fun a b hb => ?_) hy
        obtain ⟨hne, lb, hm⟩ := mem_avs.mp hb
        exact mem_avs.mpr ⟨hne, lb, (List.mem_filter.mp hm).1⟩
  have kb : ∀ x, rchB ((liveR A).filter p) (-1) 0 x = rchB (A.filter p) (-1) 0 x := fun x => by
    rw [Bool.eq_iff_iff, rchB_iff, rchB_iff]
    exact key x
  have e1 : liveR ((liveR A).filter p) = ((liveR A).filter p).filter fun r => rchB (A.filter p) (-1) 0 r.1 := List.filter_congr fun r _ => kb r.1
  have e2 : liveR (A.filter p) = (A.filter p).filter fun r => rchB (A.filter p) (-1) 0 r.1 := rfl
  have e3 : (liveR A).filter p = A.filter fun r => p r && rchB A (-1) 0 r.1 := List.filter_filter
  rw [e1, e2, e3, List.filter_filter, List.filter_filter]
  refine List.filter_congr fun r hr => ?_
  rw [Bool.eq_iff_iff]
  simp only [Bool.and_eq_true, rchB_iff]
  constructor
  · rintro ⟨h1, h2, _⟩
    exact ⟨h1, h2⟩
  · rintro ⟨h1, h2⟩
    refine ⟨h1, h2, Rch.mono (fun a b hb => ?_) h1⟩
    obtain ⟨hne, lb, hm⟩ := mem_avs.mp hb
    exact mem_avs.mpr ⟨hne, lb, (List.mem_filter.mp hm).1⟩
theorem live_self {R : List Row} (al : Alive R) : liveR R = R := by
  unfold liveR
  exact List.filter_eq_self.mpr fun r hr => rchB_iff.mpr (al r hr)
def outOf (gs : List Row) (R : List Row) : List Row := R.filter fun e => decide (e ∉ gs)
theorem Rem.rest {R T gs : List Row} (h : Rem R gs T) : Alive R → liveR (outOf gs R) = T := by
  have gen : ∀ {R T gs : List Row}, Rem R gs T → Alive R → liveR (outOf gs R) = T := by
    intro R T gs h
    induction h with
    | @nil R =>
      intro al
      have : outOf [] R = R := List.filter_eq_self.mpr fun r _ => decide_eq_true fun h => nomatch h
      rw [this]
      exact live_self al
    | @cons R T rs r hm hl _ ih =>
      intro al
      have e := ih alive_live
      unfold outOf aft at e
      rw [live_live] at e
      rw [← e]
      unfold outOf butR
      rw [List.filter_filter]
      refine congrArg liveR (List.filter_congr fun x _ => ?_)
      rw [Bool.eq_iff_iff]
      simp only [Bool.and_eq_true, decide_eq_true_eq, List.mem_cons]
      exact ⟨fun h => ⟨fun z => h (.inr z), fun z => h (.inl z)⟩, fun ⟨a, b⟩ h => h.elim b a⟩
  exact gen h
theorem r0_path {R : List Row} {e : Row} (he : e ∈ R) (hne : e.2.2 ≠ -1) {b : Int} (h : R0 R e.2.2 b) : Path (edges R) e.1 b := by
  induction h with
  | refl => exact .one (row_edge he hne)
  | step _ hz ih =>
    obtain ⟨h1, lb, hm⟩ := mem_avs.mp hz
    exact ih.trans (.one (row_edge (r := (_, lb, _)) hm h1.1))
/-- a cycle is a ring row -/
theorem cyc_ring {R : List Row} : Cyc (edges R) ↔ R.filter (ringB R) ≠ [] := by
  constructor
  · rintro ⟨x, hx⟩ hn
    have hno := List.filter_eq_nil_iff.mp hn
    cases hx with
    | one e =>
      obtain ⟨h1, lb, hm⟩ := edges_row e
      exact hno _ hm (ringB_iff.mpr ⟨h1, .refl⟩)
    | cons e p =>
      obtain ⟨h1, lb, hm⟩ := edges_row e
      exact hno _ hm (ringB_iff.mpr ⟨h1, path_r0 (fun _ h => h) p⟩)
  · intro h
    obtain ⟨e, he⟩ := List.exists_mem_of_ne_nil _ h
    obtain ⟨h1, h2⟩ := List.mem_filter.mp he
    have h2 := ringB_iff.mp h2
    exact ⟨e.1, r0_path h1 h2.1 h2.2⟩
end K24

/-! Rows as data: compared, shown. -/
namespace K24
open PySem L2 KS GL LB K24m ML
open PySem.Spec hiding Row
open PyProof.Rows hiding cnt
def optD : Option Row → PyData
  | none => .none
  | some r => rowD r
theorem eqv_row (r q : Row) : PyData.eqv (rowD r) (rowD q) = decide (r = q) := by
  unfold rowD
  rw [PyData.eqv, PyData.eqvAll, PyData.eqvAll, PyData.eqvAll, PyData.eqvAll, eqv_int, eqv_str, eqv_int, Bool.and_true, Bool.eq_iff_iff]
  simp only [Bool.and_eq_true, decide_eq_true_eq]
  rw [row_ext]
theorem eqvAll_rows : ∀ A B : List Row, PyData.eqvAll (A.map rowD) (B.map rowD) = decide (A = B)
  | [], [] => by simp [PyData.eqvAll]
  | [], b :: B => by simp [PyData.eqvAll]
  | a :: A, [] => by simp [PyData.eqvAll]
  | a :: A, b :: B => by
    rw [List.map_cons, List.map_cons, PyData.eqvAll, eqvAll_rows A B, eqv_row, Bool.eq_iff_iff]
    simp only [Bool.and_eq_true, decide_eq_true_eq]
    exact ⟨fun ⟨h1, h2⟩ => by rw [h1, h2], fun h => by injection h with h1 h2; exact ⟨h1, h2⟩⟩
theorem eqv_rowsL (A B : List Row) : PyData.eqv (.list (A.map rowD)) (.list (B.map rowD)) = decide (A = B) := by
  rw [PyData.eqv, eqvAll_rows]
theorem eqv_rowsT (A B : List Row) : PyData.eqv (.tuple (A.map rowD)) (.tuple (B.map rowD)) = decide (A = B) := by
  rw [PyData.eqv, eqvAll_rows]
theorem lay_rowsL : ∀ R : List Row, (∀ r ∈ R, Lbl r) → PyData.canLayAll0 (R.map rowD) = true
  | [], _ => by simp [PyData.canLayAll0]
  | r :: R, h => by
    rw [List.map_cons, PyData.canLayAll0, lay_row (h r List.mem_cons_self), lay_rowsL R fun x hx => h x (List.mem_cons_of_mem _ hx)]
    rfl
theorem depth_rowsL : ∀ R : List Row, PyData.depthAll (R.map rowD) ≤ 1
  | [] => by simp [PyData.depthAll]
  | r :: R => by
    have h1 := depth_row r
    have h2 := depth_rowsL R
    rw [List.map_cons, PyData.depthAll]
    omega
theorem shaped_row {r : Row} (h : Lbl r) : SeqAt.shaped (rowD r) = true := by
  unfold SeqAt.shaped
  rw [lay_row h, depth_row]
  rfl
theorem shaped_rowsL {R : List Row} (h : ∀ r ∈ R, Lbl r) : SeqAt.shaped (.list (R.map rowD)) = true := by
  unfold SeqAt.shaped
  have h2 := depth_rowsL R
  rw [PyData.canLay0, PyData.depth, lay_rowsL R h, Bool.true_and, decide_eq_true_eq]
  omega
theorem shaped_rowsT {R : List Row} (h : ∀ r ∈ R, Lbl r) : SeqAt.shaped (.tuple (R.map rowD)) = true := by
  unfold SeqAt.shaped
  have h2 := depth_rowsL R
  rw [PyData.canLay0, PyData.depth, lay_rowsL R h, Bool.true_and, decide_eq_true_eq]
  omega
end K24

/-! loopsaid.loops: loops_among, loop_arrows, first_loop, live_arrows, without_arrow, removal_of. -/
namespace K24
open PySem L2 KS GL LB K24m ML
open CH (outs sucs ChC ChartAt cf cf_arrows cf_states ChartOk spInit)
open PySem.Spec hiding Row
open PyProof.Rows hiding cnt
section
variable {P : Program} {w : World} {K : PySem.W.Frag} {mg : Str → Option Value} {base : Heap}
set_option hygiene false
local macro_rules | `(tactic| k_dat 0 "rd") => `(tactic| first | with_reducible apply rd.val | with_reducible apply rd.own | (apply rd.slot; apply Eq.refl) | (apply rd.slotL; apply Eq.refl))
local macro_rules | `(tactic| k_dat 0 "rdS") => `(tactic| first | with_reducible (apply rdS.l; apply rd.val) | with_reducible (apply rdS.t; apply rd.val) | with_reducible (apply rdS.l; apply rd.own) | (apply rdS.l; apply rd.slotL; apply Eq.refl) | (apply rdS.l; apply rd.slot; apply Eq.refl) | (apply rdS.t; apply rd.slot; apply Eq.refl))
local macro_rules | `(tactic| k_dat 0 "rdD") => `(tactic| first | with_reducible apply rdD.val | with_reducible apply rdD.own | (apply rdD.slot; apply Eq.refl) | (apply rdD.slotP; apply Eq.refl))
local macro_rules | `(tactic| k_dat 0 "sc") => `(tactic| first | apply Sc.int | apply Sc.bl | apply Sc.str | apply Sc.non)
local macro_rules | `(tactic| k_dat 0 "asD") => `(tactic| first | with_reducible apply asD.val | with_reducible apply asD.own | (apply asD.slot; apply Eq.refl))
local macro_rules | `(tactic| k_dat 0 "asX") => `(tactic| first | with_reducible apply asX.pure | with_reducible apply asX.own | (apply asX.slot; apply Eq.refl) | with_reducible apply asX.keep)
local macro_rules | `(tactic| k_dat 0 "nf") => `(tactic| first | (conv => arg 3; dsimp only [wipeM, List.set, List.map]) | skip)
local macro_rules | `(tactic| k_dat 0 "eq") => `(tactic| first | (dsimp only [wipeM, List.set, List.map]; done) | (dsimp only [wipeM, List.set, List.map]; apply Eq.refl) | apply Eq.refl)
local macro_rules | `(tactic| k_dat 0 "st") => `(tactic| first
  | ((with_reducible apply x_seq); k_dat 0 "nf") | ((with_reducible apply x_parT2); (case hi => omega); (case hj => omega)) | ((with_reducible apply x_asg2); (case hi => omega); (case hj => omega)) | ((with_reducible apply x_asg3); (case hi => omega); (case hj => omega); (case hl => omega)) | ((with_reducible apply x_par4); (case hi => omega); (case hj => omega); (case hk => omega); (case hl => omega)) | ((with_reducible apply x_par2); (case hij => omega); (case hi => omega); (case hj => omega)) | with_reducible first | (apply x_asg; case hl => decide) | apply x_drop | apply x_ret | apply x_next | apply x_break | apply x_cont
  | apply x_dput (K := K) | apply x_putN (K := K) | apply x_retN)
local macro_rules | `(tactic| k_dat 0 "ex") => `(tactic| with_reducible first
  | apply ev_int (K := K) | apply ev_str (K := K) | apply ev_bl (K := K) | apply ev_non (K := K)
  | apply ev_tup (K := K) | apply ev_lst (K := K) | apply ev_op | apply ev_un | apply ev_sset_rows (K := K) | apply ev_sset_ints (K := K) | apply ev_cb1 | apply ev_cb2 | apply ev_andV (K := K) | apply ev_orV (K := K) | apply ev_notV (K := K) | apply ev_if
  | apply ev_sl | apply evO_none | apply evO_some (K := K) | apply ev_rev | apply ev_bm1 | apply ev_bm0 | apply ev_dnew (K := K) | apply ev_disp (K := K) | apply ev_dget1 (K := K) | apply ev_dget2 (K := K) | apply ev_dinI (K := K) | apply ev_dninI (K := K) | apply ev_chainI (K := K)
  | apply ev_call | apply ev_call1
  | apply evD_nil | apply evD_cons | apply evA_nil | apply evA_x (K := K) | apply evPs_nil | apply evPs_cons
  | apply ev_dispN (K := K) | apply evPsN_nil | apply evPsN_cons | apply ev_ninN (K := K) | apply ev_ninR (K := K) | apply ev_dcR (K := K)
  | apply evT_val (K := K) | apply evT_B (K := K) | apply evT_and | apply evT_or | apply evT_not | apply evT_yes)
local macro_rules | `(tactic| k_dat 0 "vr") => `(tactic| first
  | ((with_reducible apply ev_var); (case h => apply Eq.refl)) | ((with_reducible apply ev_at); (case h => apply Eq.refl))
  | ((with_reducible apply x_augI); (case hi => decide); (case h0 => apply Eq.refl)))
local macro_rules | `(tactic| k_dat 0 "tg") => `(tactic| first
  | (with_reducible apply tg_name) | ((with_reducible apply tg_move); (case h => apply Eq.refl)) | ((with_reducible apply tg_tup); (case hn => rfl)) | (with_reducible apply tg_row) | (with_reducible apply tgs_nil) | (with_reducible apply tgs_consN))
local macro_rules | `(tactic| k_dat 0 "len") => `(tactic| ((first | apply lt_line | apply le_line); (try simp only [List.length_map, List.length_append, List.length_cons, List.length_nil, List.length_range]); omega))
local macro_rules | `(tactic| k_dat 0 "op") => `(tactic| first
  | ((with_reducible apply op_i0 (K := K)); (case h1 => k_dat 0 "rd"); (case h2 => k_dat 0 "rd"); (case hd => k_dat 0 "sc"))
  | ((with_reducible apply op_eqI (K := K)); (case h1 => k_dat 0 "rd"); (case h2 => k_dat 0 "rd")) | ((with_reducible apply op_neI (K := K)); (case h1 => k_dat 0 "rd"); (case h2 => k_dat 0 "rd"))
  | ((with_reducible apply op_eqS (K := K)); (case h1 => k_dat 0 "rd"); (case h2 => k_dat 0 "rd")) | ((with_reducible apply op_neS (K := K)); (case h1 => k_dat 0 "rd"); (case h2 => k_dat 0 "rd"))
  | ((with_reducible apply op_ixR0 (K := K)); (case h1 => k_dat 0 "rd"); (case h2 => k_dat 0 "rd")) | ((with_reducible apply op_ixR1 (K := K)); (case h1 => k_dat 0 "rd"); (case h2 => k_dat 0 "rd")) | ((with_reducible apply op_ixR2 (K := K)); (case h1 => k_dat 0 "rd"); (case h2 => k_dat 0 "rd"))
  | ((with_reducible apply un_i (K := K)); (case h1 => k_dat 0 "rd"); (case hd => k_dat 0 "sc"))
  | ((with_reducible apply un_len (K := K)); (case h => k_dat 0 "rdS")) | ((with_reducible apply un_list (K := K)); (case h => k_dat 0 "rdS")) | ((with_reducible apply un_tuple (K := K)); (case h => first | (apply rdS.l; k_dat 0 "rd") | (apply rdS.t; k_dat 0 "rd")))
  | ((with_reducible apply un_int (K := K)); (case h => k_dat 0 "rd")) | ((with_reducible apply un_lenD (K := K)); (case h => k_dat 0 "rdD")) | ((with_reducible apply un_listK (K := K)); (case h => k_dat 0 "rdD"))
  | ((with_reducible apply op_append (K := K)); (case hd => k_dat 0 "asD"); (case e => apply Eq.refl); (case hl => k_dat 0 "len"))
  | ((with_reducible apply op_cat_ (K := K)); (case h1 => k_dat 0 "rd"); (case h2 => k_dat 0 "rd"); (case hl => k_dat 0 "len"))
  | ((with_reducible apply op_max2 (K := K)); (case h1 => k_dat 0 "rd"); (case h2 => k_dat 0 "rd")) | ((with_reducible apply op_min2 (K := K)); (case h1 => k_dat 0 "rd"); (case h2 => k_dat 0 "rd"))
  | ((with_reducible apply sl_list_ (K := K)); (case h1 => k_dat 0 "rd")) | ((with_reducible apply sl_tup_ (K := K)); (case h1 => k_dat 0 "rd")))
local macro_rules | `(tactic| k_dat 0 "sp") => `(tactic| first
  | ((with_reducible (apply Exists.intro; apply And.intro)); (case left => with_reducible apply Eq.refl))
  | ((with_reducible (apply Exists.intro; apply And.intro)); (case left => first | k_dat 0 "rd" | k_dat 0 "rdD"))
  | ((with_reducible apply And.intro); (case left => (with_reducible apply Exists.intro); k_dat 0 "rdD"))
  | ((with_reducible (apply Exists.intro; apply Exists.intro; apply And.intro)); (case left => first | k_dat 0 "asD" | k_dat 0 "asX"))
  | ((with_reducible apply And.intro); (case left => apply len_le; apply Eq.refl))
  | ((with_reducible (apply Exists.intro (Sum.inl _); apply And.intro)); (case left => apply Eq.refl)) | ((with_reducible (apply Exists.intro (Sum.inr _); apply And.intro)); (case left => apply Eq.refl)))
local macro_rules | `(tactic| k_dat 0 "wk") => `(tactic| with_reducible first | apply x_forD (K := K) | apply x_lc (K := K) | apply wkD_list | apply wkD_tup | apply wkD_seq | apply wkD_rng1 | apply wkD_rng2 | apply wkD_str)
local macro_rules | `(tactic| k_dat 0 "ml1") => `(tactic| first | k_dat 0 "st" | k_dat 0 "ex" | k_dat 0 "wk" | k_dat 0 "vr" | k_dat 0 "tg" | k_dat 0 "op" | k_dat 0 "sp")
local macro_rules | `(tactic| k_dat 0 "ml") => `(tactic| repeat k_dat 0 "ml1")
def firstM (K : PySem.W.Frag) : MSp := fun Rs q => ∃ R : List Row, Rs = [dat K (.list (R.map rowD))] ∧ R.length ≤ 76 ∧ q (dat K (optD (R.find? fun r => loopB R r))) []
abbrev S_first_loop (K : PySem.W.Frag) : Sp := spOf 0 (firstM K)
theorem scFirst : FnScope ["arrows", "nexts", "arrow"] ["arrows"] (defScope sFirst) := ⟨rfl, rfl, rfl, by decide +kernel, rfl, by decide +kernel, by decide +kernel⟩
theorem ok_first {f : Addr} {fd : FuncData} (G : Fun K "first_loop" "first_loop" sFirst f fd) (hnexts_of : HasM P w K mg base "nexts_of" 1 ["arrows"] (S_nexts_of K)) (his_loop_arrow : HasM P w K mg base "is_loop_arrow" 3 ["arrows", "nexts", "arrow"] (S_is_loop_arrow K)) :
    FnG P w K mg base CX0 4 f fd ["arrows"] (S_first_loop K) := by
  refine fn_ml G scFirst (fun Rs q ⟨_, h, _⟩ => by rw [h]; rfl) (by decide) fun cdv A outer s H E hrG => ?_
  have hr := hrG.room
  have hu := hu_of hr
  have hu64 := hr.units
  refine ⟨_, (pss_cons (ps_set (i := 1) scFirst.nd rfl (Or.inl rfl) (pe_hg hnexts_of (hrG.mono (by decide)) rfl (pa_cons (pv 0) pa_nil)))
  (pss_cons (ps_for PassesOwn.never rfl (pi_list (pv 0)) (pg_name (i := 2) scFirst.nd rfl (Or.inl rfl))
    (pss_one (ps_if (pt_val (pe_hg his_loop_arrow (hrG.mono (by decide)) rfl (pa_cons (pv 0) (pa_cons (pv 1) (pa_cons (pv 2) pa_nil)))))
    (pss_one (ps_ret (pv 2)))
    pss_nil)))
  (pss_one (ps_ret pe_non)))), ?_⟩
  rintro Rs q ⟨R, rfl, hl, hq⟩
  rw [outF_eq]
  try dsimp only [cxOf, Cx.nox, Cx.wish]
  show ML.ex 0 _ [some (dat K (.list (R.map rowD))), none, none] _
  k_dat 0 "ml"
  refine c_zero [_] ⟨_, R, rfl, .inl rfl, hl, ?_⟩
  k_dat 0 "ml"
  refine for_pre R rowD rfl (fun pre ρ' => ∃ x2 : Option Res, ρ' = [some (dat K (.list (R.map rowD))), some (pu (nextsP R)), x2] ∧ ∀ r ∈ pre, loopB R r = false) ⟨none, rfl, fun _ h => nomatch h⟩ ?_ ?_
  · rintro pre x post ρ' epre ⟨x2, rfl, hpre⟩
    refine ⟨[2], by decide, ?_⟩
    k_dat 0 "ml"
    apply x_if
    k_dat 0 "ml"
    refine c_zero [_, _, _] ⟨_, R, x, rfl, .inl rfl, hl, ?_⟩
    k_dat 0 "ml"
    refine ⟨fun h => ?_, fun h => ?_⟩
    · k_dat 0 "ml"
      have e : (R.find? fun r => loopB R r) = some x := by
        rw [List.find?_eq_some_iff_append]
        exact ⟨h, pre, post, epre, fun a ha => by rw [hpre a ha]; rfl⟩
      rw [e] at hq
      exact ⟨_, [], ret_val rfl, hq⟩
    · k_dat 0 "ml"
      refine ⟨_, rfl, fun r hr => ?_⟩
      rcases List.mem_append.mp hr with hr | hr
      · exact hpre r hr
      · rw [List.mem_singleton.mp hr]
        exact h
  · rintro ρ' ⟨x2, rfl, hpre⟩
    k_dat 0 "ml"
    have e : (R.find? fun r => loopB R r) = none := List.find?_eq_none.mpr fun r hr => by rw [hpre r hr]; exact Bool.false_ne_true
    rw [e] at hq
    exact ⟨_, [], ret_val rfl, hq⟩
def liveM (K : PySem.W.Frag) : MSp := fun Rs q => ∃ R : List Row, Rs = [dat K (.list (R.map rowD))] ∧ R.length ≤ 76 ∧ q (dat K (.list ((liveR R).map rowD))) []
abbrev S_live_arrows (K : PySem.W.Frag) : Sp := spOf 0 (liveM K)
theorem scLive : FnScope ["arrows", "there", "arrow"] ["arrows"] (defScope sLive) := ⟨rfl, rfl, rfl, by decide +kernel, rfl, by decide +kernel, by decide +kernel⟩
theorem ok_live {f : Addr} {fd : FuncData} (G : Fun K "live_arrows" "live_arrows" sLive f fd) (gE : ∃ u, mg nENDl = some u ∧ RelV (.int (-1)) u) (gS : ∃ u, mg "START" = some u ∧ RelV (.int 0) u) (hnexts_of : HasM P w K mg base "nexts_of" 1 ["arrows"] (S_nexts_of K))
    (hstates_from : HasM P w K mg base "states_from" 1 ["nexts", "first", "avoided"] (S_states_from K)) : FnG P w K mg base CX0 2 f fd ["arrows"] (S_live_arrows K) := by
  refine fn_ml G scLive (fun Rs q ⟨_, h, _⟩ => by rw [h]; rfl) (by decide) fun cdv A outer s H E hrG => ?_
  have hr := hrG.room
  have hu := hu_of hr
  have hu64 := hr.units
  obtain ⟨u2, g2, r2⟩ := gE
  obtain ⟨u0, g0, r0⟩ := gS
  refine ⟨_, (pss_cons (ps_set (i := 1) scLive.nd rfl (Or.inr rfl) (pe_hg hstates_from (hrG.mono (by decide)) rfl (pa_cons (pe_hg hnexts_of (hrG.mono (by decide)) rfl (pa_cons (pv 0) pa_nil)) (pa_cons (pe_glob rfl g0 r0) (pa_cons (pe_glob rfl g2 r2) pa_nil)))))
  (pss_one (ps_ret (pe_lc (own := [("arrow", 2)]) (g := gName 2) (tt := (tB (tDIn (tOp (rIxT K) (tVar 2) _) (tVar 1)))) (te := (tVar 2)) rfl scLive.nd (pi_list (pv 0)) (blkOk_by (own := [("arrow", 2)]) (N := ["arrows", "there", "arrow"]) (sc := defScope sLive) (by decide +kernel)) (fun _ _ _ _ _ => (pg_name (i := 2) scLive.nd rfl (by first | exact Or.inl rfl | exact Or.inr rfl))) (fun _ _ _ _ _ => pts_one (pt_cmp (pc_din hu (pe_ix ix_tup (pv 2) pe_int (fun _ _ => rfl)) (pv 1)))) (fun _ _ _ _ _ => (pv 2)))))), ?_⟩
  rintro Rs q ⟨R, rfl, hl, hq⟩
  rw [outF_eq]
  try dsimp only [cxOf, Cx.nox, Cx.wish]
  show ML.ex 0 _ [some (dat K (.list (R.map rowD))), none, none] _
  k_dat 0 "ml"
  refine c_zero [_] ⟨_, R, rfl, .inl rfl, hl, ?_⟩
  k_dat 0 "ml"
  refine c_zero [_, _, _] ⟨R, _, _, rfl, hl, fun F hF => ?_⟩
  k_dat 0 "ml"
  refine lc_fm R rowD rfl (by omega) (fun e => decide (e.1 ∈ F)) rowD (fun e he => ⟨[2], by decide, ?_⟩) ?_
  · k_dat 0 "ml"
    rw [get_true]
    refine ⟨fun h => ?_, fun h => ⟨h, by k_dat 0 "eq"⟩⟩
    k_dat 0 "ml"
    exact ⟨h, rfl, by k_dat 0 "eq"⟩
  have eL : (R.filter fun e => decide (e.1 ∈ F)) = liveR R := List.filter_congr fun e _ => by
    rw [Bool.eq_iff_iff, decide_eq_true_eq, rchB_iff]
    exact hF e.1
  rw [eL]
  k_dat 0 "ml"
  exact ⟨_, [], ret_dat .own rfl, hq⟩
def withoutM (K : PySem.W.Frag) : MSp := fun Rs q => ∃ (R : List Row) (r : Row), Rs = [dat K (.list (R.map rowD)), dat K (rowD r)] ∧ R.length ≤ 76 ∧ (∀ x ∈ R, Lbl x) ∧ Lbl r ∧ q (dat K (.list ((aft R r).map rowD))) []
abbrev S_without_arrow (K : PySem.W.Frag) : Sp := spOf 0 (withoutM K)
theorem scWithout : FnScope ["arrows", "gone", "arrow"] ["arrows", "gone"] (defScope sWithout) := ⟨rfl, rfl, rfl, by decide +kernel, rfl, by decide +kernel, by decide +kernel⟩
theorem ok_without {f : Addr} {fd : FuncData} (G : Fun K "without_arrow" "without_arrow" sWithout f fd) (hlive_arrows : HasM P w K mg base "live_arrows" 2 ["arrows"] (S_live_arrows K)) : FnG P w K mg base CX0 3 f fd ["arrows", "gone"] (S_without_arrow K) := by
  refine fn_ml G scWithout (fun Rs q ⟨_, _, h, _⟩ => by rw [h]; rfl) (by decide) fun cdv A outer s H E hrG => ?_
  have hr := hrG.room
  have hu := hu_of hr
  have hu64 := hr.units
  refine ⟨_, (pss_one (ps_ret (pe_hg hlive_arrows (hrG.mono (by decide)) rfl (pa_cons (pe_lc (own := [("arrow", 2)]) (g := gName 2) (tt := (tTest (tOp (rNeD K) (tVar 2) (tVar 1)))) (te := (tVar 2)) rfl scWithout.nd (pi_list (pv 0)) (blkOk_by (own := [("arrow", 2)]) (N := ["arrows", "gone", "arrow"]) (sc := defScope sWithout) (by decide +kernel)) (fun _ _ _ _ _ => (pg_name (i := 2) scWithout.nd rfl (by first | exact Or.inl rfl | exact Or.inr rfl))) (fun _ _ _ _ _ => pts_one (pt_cmpR (op_neD hu64) (pv 2) (pv 1) (nomark _))) (fun _ _ _ _ _ => (pv 2))) pa_nil)))), ?_⟩
  rintro Rs q ⟨R, r, rfl, hl, hR, hr', hq⟩
  rw [outF_eq]
  try dsimp only [cxOf, Cx.nox, Cx.wish]
  show ML.ex 0 _ [some (dat K (.list (R.map rowD))), some (dat K (rowD r)), none] _
  k_dat 0 "ml"
  refine lc_fm R rowD rfl (by omega) (fun e => decide (e ≠ r)) rowD (fun e he => ⟨[2], by decide, ?_⟩) ?_
  · k_dat 0 "ml"
    refine op_dne rd.val rd.val (shaped_row (hR e he)) (shaped_row hr') ⟨_, rfl, ?_⟩
    rw [eqv_row]
    refine ⟨fun h => ?_, fun h => ⟨by simpa using h, by k_dat 0 "eq"⟩⟩
    k_dat 0 "ml"
    exact ⟨by simpa using h, rfl, by k_dat 0 "eq"⟩
  k_dat 0 "ml"
  refine c_zero [_] ⟨butR R r, rfl, Nat.le_trans (List.length_filter_le _ _) hl, ?_⟩
  k_dat 0 "ml"
  exact ⟨_, [], ret_val rfl, hq⟩
end
end K24

/-! loopsaid.loops: removal_of. -/
namespace K24
open PySem L2 KS GL LB K24m ML
open CH (outs sucs ChC ChartAt cf cf_arrows cf_states ChartOk spInit)
open PySem.Spec hiding Row
open PyProof.Rows hiding cnt
theorem Rem.snoc {R T gs : List Row} {r : Row} (h : Rem R gs T) : r ∈ T → LoopP T r → Rem R (gs ++ [r]) (aft T r) := by
  induction h with
  | nil => exact fun h1 h2 => .cons h1 h2 .nil
  | cons a b _ ih => exact fun h1 h2 => .cons a b (ih h1 h2)
theorem aft_len {R : List Row} {r : Row} (h : r ∈ R) : (aft R r).length < R.length := by
  refine Nat.lt_of_le_of_lt (List.length_filter_le _ _) ?_
  refine Nat.lt_of_le_of_ne (List.length_filter_le _ _) fun e => ?_
  have := List.length_filter_eq_length_iff.mp e r h
  simp at this
theorem aft_mem {R : List Row} {r e : Row} (h : e ∈ aft R r) : e ∈ R := aft_sub.subset h
theorem done_of {L : List Row} (h : (L.find? fun r => loopB L r) = none) : Done L := fun r hr z => by
  have := List.find?_eq_none.mp h r hr
  exact this (loopB_iff.mpr z)
/-- the removal that always takes the first loop arrow -/
noncomputable def remF (L : List Row) : List Row :=
  match h : L.find? fun r => loopB L r with
  | none => []
  | some r => r :: remF (aft L r)
termination_by L.length
decreasing_by exact aft_len (List.mem_of_find?_eq_some h)
theorem remF_none {L : List Row} (h : (L.find? fun r => loopB L r) = none) : remF L = [] := by
  rw [remF]
  split
  · rfl
  · rename_i r e
    rw [h] at e
    cases e
theorem remF_some {L : List Row} {r : Row} (h : (L.find? fun r => loopB L r) = some r) : remF L = r :: remF (aft L r) := by
  rw [remF]
  split
  · rename_i e
    rw [h] at e
    cases e
  · rename_i r' e
    rw [h] at e
    cases e
    rfl
section
variable {P : Program} {w : World} {K : PySem.W.Frag} {mg : Str → Option Value} {base : Heap}
set_option hygiene false
local macro_rules | `(tactic| k_dat 0 "rd") => `(tactic| first | with_reducible apply rd.val | with_reducible apply rd.own | (apply rd.slot; apply Eq.refl) | (apply rd.slotL; apply Eq.refl))
local macro_rules | `(tactic| k_dat 0 "rdS") => `(tactic| first | with_reducible (apply rdS.l; apply rd.val) | with_reducible (apply rdS.t; apply rd.val) | with_reducible (apply rdS.l; apply rd.own) | (apply rdS.l; apply rd.slotL; apply Eq.refl) | (apply rdS.l; apply rd.slot; apply Eq.refl) | (apply rdS.t; apply rd.slot; apply Eq.refl))
local macro_rules | `(tactic| k_dat 0 "rdD") => `(tactic| first | with_reducible apply rdD.val | with_reducible apply rdD.own | (apply rdD.slot; apply Eq.refl) | (apply rdD.slotP; apply Eq.refl))
local macro_rules | `(tactic| k_dat 0 "sc") => `(tactic| first | apply Sc.int | apply Sc.bl | apply Sc.str | apply Sc.non)
local macro_rules | `(tactic| k_dat 0 "asD") => `(tactic| first | with_reducible apply asD.val | with_reducible apply asD.own | (apply asD.slot; apply Eq.refl))
local macro_rules | `(tactic| k_dat 0 "asX") => `(tactic| first | with_reducible apply asX.pure | with_reducible apply asX.own | (apply asX.slot; apply Eq.refl) | with_reducible apply asX.keep)
local macro_rules | `(tactic| k_dat 0 "nf") => `(tactic| first | (conv => arg 3; dsimp only [wipeM, List.set, List.map]) | skip)
local macro_rules | `(tactic| k_dat 0 "eq") => `(tactic| first | (dsimp only [wipeM, List.set, List.map]; done) | (dsimp only [wipeM, List.set, List.map]; apply Eq.refl) | apply Eq.refl)
local macro_rules | `(tactic| k_dat 0 "st") => `(tactic| first
  | ((with_reducible apply x_seq); k_dat 0 "nf") | ((with_reducible apply x_parT2); (case hi => omega); (case hj => omega)) | ((with_reducible apply x_asg2); (case hi => omega); (case hj => omega)) | ((with_reducible apply x_asg3); (case hi => omega); (case hj => omega); (case hl => omega)) | ((with_reducible apply x_par4); (case hi => omega); (case hj => omega); (case hk => omega); (case hl => omega)) | ((with_reducible apply x_par2); (case hij => omega); (case hi => omega); (case hj => omega)) | with_reducible first | (apply x_asg; case hl => decide) | apply x_drop | apply x_ret | apply x_next | apply x_break | apply x_cont
  | apply x_dput (K := K) | apply x_putN (K := K) | apply x_retN)
local macro_rules | `(tactic| k_dat 0 "ex") => `(tactic| with_reducible first
  | apply ev_int (K := K) | apply ev_str (K := K) | apply ev_bl (K := K) | apply ev_non (K := K)
  | apply ev_tup (K := K) | apply ev_lst (K := K) | apply ev_op | apply ev_un | apply ev_sset_rows (K := K) | apply ev_sset_ints (K := K) | apply ev_cb1 | apply ev_cb2 | apply ev_andV (K := K) | apply ev_orV (K := K) | apply ev_notV (K := K) | apply ev_if
  | apply ev_sl | apply evO_none | apply evO_some (K := K) | apply ev_rev | apply ev_bm1 | apply ev_bm0 | apply ev_dnew (K := K) | apply ev_disp (K := K) | apply ev_dget1 (K := K) | apply ev_dget2 (K := K) | apply ev_dinI (K := K) | apply ev_dninI (K := K) | apply ev_chainI (K := K)
  | apply ev_call | apply ev_call1
  | apply evD_nil | apply evD_cons | apply evA_nil | apply evA_x (K := K) | apply evPs_nil | apply evPs_cons
  | apply ev_dispN (K := K) | apply evPsN_nil | apply evPsN_cons | apply ev_ninN (K := K) | apply ev_ninR (K := K) | apply ev_dcR (K := K)
  | apply evT_val (K := K) | apply evT_B (K := K) | apply evT_and | apply evT_or | apply evT_not | apply evT_yes)
local macro_rules | `(tactic| k_dat 0 "vr") => `(tactic| first
  | ((with_reducible apply ev_var); (case h => apply Eq.refl)) | ((with_reducible apply ev_at); (case h => apply Eq.refl))
  | ((with_reducible apply x_augI); (case hi => decide); (case h0 => apply Eq.refl)))
local macro_rules | `(tactic| k_dat 0 "tg") => `(tactic| first
  | (with_reducible apply tg_name) | ((with_reducible apply tg_move); (case h => apply Eq.refl)) | ((with_reducible apply tg_tup); (case hn => rfl)) | (with_reducible apply tg_row) | (with_reducible apply tgs_nil) | (with_reducible apply tgs_consN))
local macro_rules | `(tactic| k_dat 0 "len") => `(tactic| ((first | apply lt_line | apply le_line); (try simp only [List.length_map, List.length_append, List.length_cons, List.length_nil, List.length_range]); omega))
local macro_rules | `(tactic| k_dat 0 "op") => `(tactic| first
  | ((with_reducible apply op_i0 (K := K)); (case h1 => k_dat 0 "rd"); (case h2 => k_dat 0 "rd"); (case hd => k_dat 0 "sc"))
  | ((with_reducible apply op_eqI (K := K)); (case h1 => k_dat 0 "rd"); (case h2 => k_dat 0 "rd")) | ((with_reducible apply op_neI (K := K)); (case h1 => k_dat 0 "rd"); (case h2 => k_dat 0 "rd"))
  | ((with_reducible apply op_eqS (K := K)); (case h1 => k_dat 0 "rd"); (case h2 => k_dat 0 "rd")) | ((with_reducible apply op_neS (K := K)); (case h1 => k_dat 0 "rd"); (case h2 => k_dat 0 "rd"))
  | ((with_reducible apply op_ixR0 (K := K)); (case h1 => k_dat 0 "rd"); (case h2 => k_dat 0 "rd")) | ((with_reducible apply op_ixR1 (K := K)); (case h1 => k_dat 0 "rd"); (case h2 => k_dat 0 "rd")) | ((with_reducible apply op_ixR2 (K := K)); (case h1 => k_dat 0 "rd"); (case h2 => k_dat 0 "rd"))
  | ((with_reducible apply un_i (K := K)); (case h1 => k_dat 0 "rd"); (case hd => k_dat 0 "sc"))
  | ((with_reducible apply un_len (K := K)); (case h => k_dat 0 "rdS")) | ((with_reducible apply un_list (K := K)); (case h => k_dat 0 "rdS")) | ((with_reducible apply un_tuple (K := K)); (case h => first | (apply rdS.l; k_dat 0 "rd") | (apply rdS.t; k_dat 0 "rd")))
  | ((with_reducible apply un_int (K := K)); (case h => k_dat 0 "rd")) | ((with_reducible apply un_lenD (K := K)); (case h => k_dat 0 "rdD")) | ((with_reducible apply un_listK (K := K)); (case h => k_dat 0 "rdD"))
  | ((with_reducible apply op_append (K := K)); (case hd => k_dat 0 "asD"); (case e => apply Eq.refl); (case hl => k_dat 0 "len"))
  | ((with_reducible apply op_cat_ (K := K)); (case h1 => k_dat 0 "rd"); (case h2 => k_dat 0 "rd"); (case hl => k_dat 0 "len"))
  | ((with_reducible apply op_max2 (K := K)); (case h1 => k_dat 0 "rd"); (case h2 => k_dat 0 "rd")) | ((with_reducible apply op_min2 (K := K)); (case h1 => k_dat 0 "rd"); (case h2 => k_dat 0 "rd"))
  | ((with_reducible apply sl_list_ (K := K)); (case h1 => k_dat 0 "rd")) | ((with_reducible apply sl_tup_ (K := K)); (case h1 => k_dat 0 "rd")))
local macro_rules | `(tactic| k_dat 0 "sp") => `(tactic| first
  | ((with_reducible (apply Exists.intro; apply And.intro)); (case left => with_reducible apply Eq.refl))
  | ((with_reducible (apply Exists.intro; apply And.intro)); (case left => first | k_dat 0 "rd" | k_dat 0 "rdD"))
  | ((with_reducible apply And.intro); (case left => (with_reducible apply Exists.intro); k_dat 0 "rdD"))
  | ((with_reducible (apply Exists.intro; apply Exists.intro; apply And.intro)); (case left => first | k_dat 0 "asD" | k_dat 0 "asX"))
  | ((with_reducible apply And.intro); (case left => apply len_le; apply Eq.refl))
  | ((with_reducible (apply Exists.intro (Sum.inl _); apply And.intro)); (case left => apply Eq.refl)) | ((with_reducible (apply Exists.intro (Sum.inr _); apply And.intro)); (case left => apply Eq.refl)))
local macro_rules | `(tactic| k_dat 0 "wk") => `(tactic| with_reducible first | apply x_forD (K := K) | apply x_lc (K := K) | apply wkD_list | apply wkD_tup | apply wkD_seq | apply wkD_rng1 | apply wkD_rng2 | apply wkD_str)
local macro_rules | `(tactic| k_dat 0 "ml1") => `(tactic| first | k_dat 0 "st" | k_dat 0 "ex" | k_dat 0 "wk" | k_dat 0 "vr" | k_dat 0 "tg" | k_dat 0 "op" | k_dat 0 "sp")
local macro_rules | `(tactic| k_dat 0 "ml") => `(tactic| repeat k_dat 0 "ml1")
def removalM (K : PySem.W.Frag) (C : Addr) : MSp := fun Rs q => ∃ (n : Nat) (R : List Row), Rs = [pu (chartP K C n R)] ∧ R.length ≤ 76 ∧ (∀ x ∈ R, Lbl x) ∧ ∀ gs T : List Row, Rem R gs T → Done T → gs.length ≤ R.length → gs = remF R → q (dat K (.tuple (gs.map rowD))) []
theorem scRemoval : FnScope ["chart", "left", "found", "loop"] ["chart"] (defScope sRemoval) := ⟨rfl, rfl, rfl, by decide +kernel, rfl, by decide +kernel, by decide +kernel⟩
theorem ok_removal {f C : Addr} {fd : FuncData} (G : Fun K "removal_of" "removal_of" sRemoval f fd) (T : Blt mg) (CC : ChC K mg C) (hfirst_loop : HasM P w K mg base "first_loop" 4 ["arrows"] (S_first_loop K)) (hwithout_arrow : HasM P w K mg base "without_arrow" 3 ["arrows", "gone"] (S_without_arrow K)) :
    FnG P w K mg base CX0 5 f fd ["chart"] (spOf 0 (removalM K C)) := by
  refine fn_ml G scRemoval (fun Rs q ⟨_, _, h, _⟩ => by rw [h]; rfl) (by decide) fun cdv A outer s H E hrG => ?_
  have hr := hrG.room
  have hu := hu_of hr
  have hu64 := hr.units
  refine ⟨_, (pss_cons (ps_par (i := 1) (j := 2) rfl scRemoval.nd rfl rfl (by decide) rfl rfl (pa_cons (pe_callTy call_listQ (by rfl) T.b_list (by decide +kernel) (pa_cons (pe_fld (pv 0) rfl) pa_nil)) (pa_cons (pe_lst pa_nil) pa_nil)) (by rfl))
  (pss_cons (ps_set (i := 3) scRemoval.nd rfl (Or.inl rfl) (pe_hg hfirst_loop (hrG.mono (by decide)) rfl (pa_cons (pv 1) pa_nil)))
  (pss_cons (ps_while PassesOwn.never (pt_cmpR op_notN (pv 3) pe_non (nomark _))
    (pss_cons (ps_expr (pe_bm PySem.F.plainAttrs_list PySem.F.slot_list_append PySem.F.type_list_append mt_append (pv 2) (pa_cons (pv 3) pa_nil)))
  (pss_cons (ps_set (i := 1) scRemoval.nd rfl (Or.inl rfl) (pe_hg hwithout_arrow (hrG.mono (by decide)) rfl (pa_cons (pv 1) (pa_cons (pv 3) pa_nil))))
  (pss_one (ps_set (i := 3) scRemoval.nd rfl (Or.inl rfl) (pe_hg hfirst_loop (hrG.mono (by decide)) rfl (pa_cons (pv 1) pa_nil)))))))
  (pss_one (ps_ret (pe_callTy call_tupQ (by rfl) T.b_tuple (by decide +kernel) (pa_cons (pv 2) pa_nil))))))), ?_⟩
  rintro Rs q ⟨n, R, rfl, hl, hR, hq⟩
  rw [outF_eq]
  try dsimp only [cxOf, Cx.nox, Cx.wish]
  show ML.ex 0 _ [some (pu (chartP K C n R)), none, none, none] _
  k_dat 0 "ml"
  refine ev_arrows CC rfl ?_
  k_dat 0 "ml"
  refine c_zero [_] ⟨R, rfl, hl, ?_⟩
  k_dat 0 "ml"
  refine x_while (fun m ρ' => ∃ gs L : List Row, ρ' = [some (pu (chartP K C n R)), some (dat K (.list (L.map rowD))), some (ML.lo K (gs.map rowD)), some (dat K (optD (L.find? fun r => loopB L r)))] ∧ m = L.length ∧ Rem R gs L ∧ gs.length + L.length ≤ R.length ∧ gs ++ remF L = remF R)
    ⟨_, [], R, rfl, rfl, .nil, by simp, rfl⟩ ?_
  rintro m ρ' ⟨gs, L, rfl, rfl, hrem, hgl, hfix⟩
  have hLR : ∀ x ∈ L, x ∈ R := fun x hx => hrem.sub.subset hx
  k_dat 0 "ml"
  refine op_notN_ rd.val rd.val ⟨_, rfl, ?_⟩
  cases e : L.find? fun r => loopB L r with
  | none =>
    refine ⟨fun h => Bool.noConfusion h, fun _ => ?_⟩
    k_dat 0 "ml"
    exact ⟨_, [], ret_val rfl, hq gs L hrem (done_of e) (by omega) (by rw [remF_none e, List.append_nil] at hfix; exact hfix)⟩
  | some r =>
    have hr1 : r ∈ L := List.mem_of_find?_eq_some e
    have hr2 : LoopP L r := loopB_iff.mp (List.find?_some e)
    refine ⟨fun _ => ?_, fun h => Bool.noConfusion h⟩
    k_dat 0 "ml"
    refine c_zero [_, _] ⟨L, r, rfl, by omega, fun x hx => hR x (hLR x hx), hR r (hLR r hr1), ?_⟩
    k_dat 0 "ml"
    have hal := aft_len (R := L) hr1
    refine c_zero [_] ⟨aft L r, rfl, by omega, ?_⟩
    k_dat 0 "ml"
    refine ⟨_, hal, gs ++ [r], aft L r, ?_, rfl, hrem.snoc hr1 hr2, by rw [List.length_append, List.length_singleton]; omega, by rw [← hfix, remF_some e, List.append_assoc]; rfl⟩
    rw [List.map_append]
    rfl
end
end K24

/-! Any data, dicts among them, against a row, among rows, against (). -/
namespace EqQ
open PySem PySem.SeqAt PySem.Spec PyProof.Rows
open AutoSeq1 (wpAny_loadPart')
open MeetsSeq
theorem int_declines (b : Int) (u : Tok) (l : Addr) (c : Value) (es : Array DictEntry) (n : Nat) (dd : Option Addr) (sl : Array (Option Value)) :
    Meets (Builtin.«int.__eq__» ⟨[.int b u, .ref l], []⟩) (fun _ R s => s.heap.get? l = some { cls := c, dict := dd, data := .dict es n, slots := sl } ∧ R (.ok (.ret .notImplemented)) s) :=
  .of_wp fun prog w A R s h => by obtain ⟨hp, g, d, tk, os⟩ := s; obtain ⟨hl, h⟩ := h; wp_walk using wpAny_loadPart' hl, wpAny_load hl; exact ⟨_, rfl, h⟩
theorem str_declines (b : Str) (u : Tok) (l : Addr) (c : Value) (es : Array DictEntry) (n : Nat) (dd : Option Addr) (sl : Array (Option Value)) :
    Meets (Builtin.«str.__eq__» ⟨[.str b u, .ref l], []⟩) (fun _ R s => s.heap.get? l = some { cls := c, dict := dd, data := .dict es n, slots := sl } ∧ R (.ok (.ret .notImplemented)) s) :=
  .of_wp fun prog w A R s h => by obtain ⟨hp, g, d, tk, os⟩ := s; obtain ⟨hl, h⟩ := h; wp_walk using wpAny_loadPart' hl, wpAny_load hl; exact ⟨_, rfl, h⟩
theorem dict_declines_int (l : Addr) (es : Array DictEntry) (n : Nat) (dd : Option Addr) (sl : Array (Option Value)) (b : Int) (u : Tok) :
    Meets (Builtin.«dict.__eq__» ⟨[.ref l, .int b u], []⟩) (fun _ R s => s.heap.get? l = some { cls := .type "dict", dict := dd, data := .dict es n, slots := sl } ∧ R (.ok (.ret .notImplemented)) s) :=
  .of_wp fun prog w A R s h => by obtain ⟨hp, g, d, tk, os⟩ := s; obtain ⟨hl, h⟩ := h; have f1 := F.sub_int_dict; wp_walk using wpAny_loadPart' hl, wpAny_load hl; exact ⟨_, rfl, h⟩
theorem dict_declines_str (l : Addr) (es : Array DictEntry) (n : Nat) (dd : Option Addr) (sl : Array (Option Value)) (b : Str) (u : Tok) :
    Meets (Builtin.«dict.__eq__» ⟨[.ref l, .str b u], []⟩) (fun _ R s => s.heap.get? l = some { cls := .type "dict", dict := dd, data := .dict es n, slots := sl } ∧ R (.ok (.ret .notImplemented)) s) :=
  .of_wp fun prog w A R s h => by obtain ⟨hp, g, d, tk, os⟩ := s; obtain ⟨hl, h⟩ := h; have f1 := F.sub_str_dict; wp_walk using wpAny_loadPart' hl, wpAny_load hl; exact ⟨_, rfl, h⟩
section
variable {A : Around} {s : Shared}
theorem int_dict {l : Addr} {o : Obj} {es : Array DictEntry} {n : Nat} (b : Int) (u : Tok) (ho : s.heap.get? l = some o) (hc : o.cls = .type "dict") (hd : o.data = .dict es n) (hu : A.units < cLine) : EqAt A s (.int b u) (.ref l) false := fun prog w E Q h => by
  unfold eqBool
  refine wpAny_holding ?_
  refine wpAny_ite_split (fun hab => absurd (eq_of_beq hab) nofun) (fun _ => ?_)
  obtain ⟨cls, dd, data, sl⟩ := o
  simp only at hc hd
  subst hc hd
  refine wpAny_bind (rc_eq_decline_or (k := false) (typeIs_int s b u) ⟨_, ho, rfl⟩ (by decide) F.sub_dict_int F.slot_int_eq F.slot_dict_eq_refl
    (fun _ hq => call_meets F.slot_int_eq (typeIs_int s b u) F.entry_int_eq (F.args_int_eq_2 _ _) (int_declines b u l (.type "dict") es n dd sl) ⟨ho, hq⟩)
    (fun _ hq => call_meets F.slot_dict_eq_refl ⟨_, ho, rfl⟩ F.entry_dict_eq (F.args_dict_eq_2 _ _) (dict_declines_int l es n dd sl b u) ⟨ho, hq⟩)
    (fun _ hq => wpAny_of_eq (rfl : isSame (.int b u) (.ref l) = pure false) hq) (.inr hu) (wpAny_truthy_bool h))
theorem str_dict {l : Addr} {o : Obj} {es : Array DictEntry} {n : Nat} (b : Str) (u : Tok) (ho : s.heap.get? l = some o) (hc : o.cls = .type "dict") (hd : o.data = .dict es n) (hu : A.units < cLine) : EqAt A s (.str b u) (.ref l) false := fun prog w E Q h => by
  unfold eqBool
  refine wpAny_holding ?_
  refine wpAny_ite_split (fun hab => absurd (eq_of_beq hab) nofun) (fun _ => ?_)
  obtain ⟨cls, dd, data, sl⟩ := o
  simp only at hc hd
  subst hc hd
  refine wpAny_bind (rc_eq_decline_or (k := false) (typeIs_str s b u) ⟨_, ho, rfl⟩ (by decide) F.sub_dict_str F.slot_str_eq F.slot_dict_eq_refl
    (fun _ hq => call_meets F.slot_str_eq (typeIs_str s b u) F.entry_str_eq (F.args_str_eq_2 _ _) (str_declines b u l (.type "dict") es n dd sl) ⟨ho, hq⟩)
    (fun _ hq => call_meets F.slot_dict_eq_refl ⟨_, ho, rfl⟩ F.entry_dict_eq (F.args_dict_eq_2 _ _) (dict_declines_str l es n dd sl b u) ⟨ho, hq⟩)
    (fun _ hq => wpAny_of_eq (rfl : isSame (.str b u) (.ref l) = pure false) hq) (.inr hu) (wpAny_truthy_bool h))
end
end EqQ

/-! Dicts whose keys are tuples, some of them constants of the code: {x: True for x in t}, y not in d. What is told of the dict is its entries; that the keys are these tuples is told beside it. -/
namespace LB
open PySem PySem.Spec PyProof.Rows L2 KS GL
abbrev Ent := List Key × Addr × Value
def RawD (P : Program) (w : World) (h : Heap) (a : Addr) (xs : List Ent) : Prop := ∃ o es ep, h.get? a = some o ∧ o.ExactDict ∧ o.data = .dict es ep ∧ es.toList = xs.map (entryOfKey (tupleKind (mixKind P w))) ∧ (xs.map (·.1)).Nodup
def RDo (P : Program) (w : World) (a : Addr) (xs : List Ent) : HO := .ext fun h => (a == sysModules) = false ∧ RawD P w h a xs
section
variable {P : Program} {w : World} {H : Hp} {h : Heap} {a : Addr} {xs : List Ent}
theorem rd_new (hd : (a == sysModules) = false) (r : RawD P w h a xs) : ObjOk P w H h a (RDo P w a xs) := by
  refine ⟨⟨hd, r⟩, ?_, ?_⟩
  · obtain ⟨o, _, _, ho, _⟩ := r
    exact ⟨o, ho⟩
  · rintro h1 h2 ⟨hd, o, es, ep, ho, r⟩ k
    exact ⟨hd, o, es, ep, k o ho, r⟩
end
section
variable {X : Cx} {pins : List (Addr × Obj)} {σ : L2.St} {H : Hp} {s : Shared} {a b : Addr} {xs : List Ent} {k : List Key}
theorem key_sq (I : Inv X pins σ H s) (h : SqT X.K H b (k.map kV)) : (tupleKind (mixKind X.prog X.w)).is s.heap k b := by
  obtain ⟨its, r, ⟨o, h1, h2, n, h3⟩, _⟩ := I.tuple h
  exact ⟨o, its.toArray, n, h1, h2, h3, by simpa using items_are r⟩
theorem raw_dict (I : Inv X pins σ H s) (r : RawD X.prog X.w s.heap a xs) (hx : ∀ x ∈ xs, SqT X.K H x.2.1 (x.1.map kV)) : s.heap.DictOfH (tupleKind (mixKind X.prog X.w)) a xs := by
  obtain ⟨o, es, ep, h1, h2, h3, h4, h5⟩ := r
  exact ⟨o, es, ep, h1, h2, h3, h4, fun x hm => key_sq I (hx x hm), h5⟩
end
/-- y not in d -/
def tNinR (P : Program) (w : World) (K : PySem.W.Frag) (ty td : TE) : TE := fun σ H Q => ty σ H fun y H1 => td σ H1 fun x H2 => ∃ (a b : Addr) (xs : List Ent) (k : List Key), x = .ref a ∧ y = .ref b ∧ H2 a = some (RDo P w a xs) ∧ SqT K H2 b (k.map kV) ∧
  (∀ x ∈ xs, SqT K H2 x.2.1 (x.1.map kV)) ∧ Q (.bl (!(atKey xs k).isSome)) H2
def rowsT (ps : List (Addr × List Key)) : List Ent := ps.foldl (fun acc z => storedH acc z.2 z.1 (.bool true)) []
/-- {x: True for x in t} -/
def tDcR (P : Program) (w : World) (K : PySem.W.Frag) (te : TE) : TE := fun σ H Q => te σ H fun v H1 => ∃ (a : Addr) (ps : List (Addr × List Key)), v = .ref a ∧ SqT K H1 a (ps.map fun z => V.ref z.1) ∧ (∀ z ∈ ps, SqT K H1 z.1 (z.2.map kV)) ∧
  ∀ d, H1 d = none → Q (.ref d) (upd H1 d (RDo P w d (rowsT ps)))
theorem stored_sub {xs : List Ent} {k : List Key} {a : Addr} {v : Value} {x : Ent} (h : x ∈ storedH xs k a v) : (∃ y ∈ xs, y.1 = x.1 ∧ y.2.1 = x.2.1) ∨ (x.1 = k ∧ x.2.1 = a) := by
  unfold storedH at h
  split at h
  · obtain ⟨y, hy, e⟩ := List.mem_map.mp h
    refine .inl ⟨y, hy, ?_⟩
    unfold putAt at e
    split at e
    · rw [← e]
      exact ⟨rfl, rfl⟩
    · rw [← e]
      exact ⟨rfl, rfl⟩
  · rcases List.mem_append.mp h with h | h
    · exact .inl ⟨x, h, rfl, rfl⟩
    · rw [List.mem_singleton.mp h]
      exact .inr ⟨rfl, rfl⟩
theorem rowsT_snoc (ps : List (Addr × List Key)) (z : Addr × List Key) : rowsT (ps ++ [z]) = storedH (rowsT ps) z.2 z.1 (.bool true) := by
  unfold rowsT
  rw [List.foldl_append]
  rfl
theorem rowsT_sub {K : PySem.W.Frag} {H : Hp} : ∀ {ps : List (Addr × List Key)}, (∀ z ∈ ps, SqT K H z.1 (z.2.map kV)) → ∀ x ∈ rowsT ps, SqT K H x.2.1 (x.1.map kV) := by
  intro ps
  have go : ∀ (ps : List (Addr × List Key)) (acc : List Ent), (∀ x ∈ acc, SqT K H x.2.1 (x.1.map kV)) → (∀ z ∈ ps, SqT K H z.1 (z.2.map kV)) → ∀ x ∈ ps.foldl (fun acc z => storedH acc z.2 z.1 (.bool true)) acc, SqT K H x.2.1 (x.1.map kV) := by
    intro ps
    induction ps with
    | nil => exact fun acc h _ => h
    | cons z ps ih =>
      intro acc h hz
      refine ih _ (fun x hx => ?_) fun y hy => hz y (List.mem_cons_of_mem _ hy)
      rcases stored_sub hx with ⟨y, hy, e1, e2⟩ | ⟨e1, e2⟩
      · rw [← e1, ← e2]
        exact h y hy
      · rw [e1, e2]
        exact hz z List.mem_cons_self
  exact go ps [] fun x hx => nomatch hx
theorem stored_len (xs : List Ent) (k : List Key) (a : Addr) (v : Value) : (storedH xs k a v).length ≤ xs.length + 1 := by
  unfold storedH
  split
  · rw [List.length_map]
    exact Nat.le_succ _
  · rw [List.length_append]
    exact Nat.le_refl _
theorem rowsT_len (ps : List (Addr × List Key)) : (rowsT ps).length ≤ ps.length := by
  have go : ∀ (ps : List (Addr × List Key)) (acc : List Ent), (ps.foldl (fun acc z => storedH acc z.2 z.1 (.bool true)) acc).length ≤ acc.length + ps.length := by
    intro ps
    induction ps with
    | nil => exact fun acc => Nat.le_refl _
    | cons z ps ih =>
      intro acc
      have h1 := ih (storedH acc z.2 z.1 (.bool true))
      have h2 := stored_len acc z.2 z.1 (.bool true)
      rw [List.foldl_cons, List.length_cons]
      omega
  have := go ps []
  rwa [List.length_nil, Nat.zero_add] at this
section
variable {X : Cx} {pos : Pos} {o i : Expr} {td ty : TE}
theorem pc_ninR (hu : X.A.units + 1 < cLine) (hi : PE X i ty) (ho : PE X o td) : PC X .NotIn i o (tNinR X.prog X.w X.K ty td) := by
  refine ⟨fun pins s σ H Q I h => ?_⟩
  refine thn (hi.run pins s σ H _ I h) fun iv s1 ⟨y, H1, I1, ry, q1⟩ => thn (ho.run pins s1 σ H1 _ I1 q1) fun u s2 ⟨x, H2, I2, rx, a, b, xs, k, ex, ey, g, hk, hx, q2⟩ => ?_
  subst ex ey
  obtain rfl : u = Value.ref a := rx
  obtain rfl : iv = Value.ref b := ry
  obtain ⟨hd, r⟩ := (show ObjOk X.prog X.w H2 s2.heap a (RDo X.prog X.w a xs) from I2.hok a _ g).1
  exact wpAny_notIn_heap (tupleKind_room_in1 hu) (key_sq I2 hk) hd (raw_dict I2 r hx) ⟨.bl (!(atKey xs k).isSome), H2, I2.tok _, rfl, q2⟩
theorem pe_dcR {x : Str} {iter : Expr} {scope : Scope} {p1 p2 p3 : Pos} {j : Nat} {te : TE} (hc : X.calm = true) (hu : X.A.units + 1 < cLine) (hi : PE X iter te) (hk : scope.kind = .function) (hn : ∀ y ∈ scope.names, y.2 = .local ∧ scope.names.lookup y.1 = some .local)
    (hx : scope.names.lookup x = some .local) (hdb : (x == ("__debug__" : Str)) = false) (hs : ∀ x, foldedSetIterable iter X.env x = pure x) : PE X (.DictComp (.Name x p1) (.Constant (.bool true) j p2) [⟨.Name x p3, iter, [], 0⟩] scope pos) (tDcR X.prog X.w X.K te) := by
  refine ⟨fun pins s σ H Q I h => ?_⟩
  refine DictComp_goes (closure_ok fun y hy e => by rw [(hn y hy).1] at e; cases e) (fun y hy e => by rw [(hn y hy).1] at e; cases e) hk (fun y hy _ => (hn y hy).2) (thn (hi.run pins s σ H _ I h) fun u s1 ⟨v, H1, I1, rv, a, ps, ev, hS, hz, q⟩ => ?_) hs
  subst ev
  obtain rfl : u = Value.ref a := rv
  obtain ⟨its, rel, pt, hzl⟩ := I1.tuple hS
  have pt' : s1.heap.IsTuple a its.toArray := pt
  have hat : a < s1.heap.objs.size := by
    obtain ⟨o, ho, _⟩ := pt'
    exact Heap.lt_size ho
  refine wpAny_pyIter_tuple pt' ?_
  refine ⟨s1.heap.objs.size, [s1.heap.objs.size, a], [s1.heap.objs.size], its.toArray.size, _, _, rfl, Goes.tuple (I1.ok.hd hc) s1.heap.objs.size a (Nat.ne_of_lt hat) its.toArray, ⟨⟨_, Heap.get?_push_size _ rfl, rfl, rfl⟩, ?_⟩, fun D C s3 hb hD => ?_⟩
  · obtain ⟨o, ho, r⟩ := pt'
    exact ⟨o, Heap.get?_push_of_some _ ho, r⟩
  have I2 : Inv X pins σ H1 { s1 with heap := s1.heap.push { cls := .type "tuple_iterator", data := .fields #[.ref a, .int 0 0] } } := I1.kept fun b o e => Heap.get?_push_of_some _ e
  have hlen : its.length = ps.length := by rw [← rel.length, List.length_map]
  have fI : FpOk X pins H1 s1.heap.objs.size := I1.fpOk (Nat.le_refl _) (I1.hok.fresh (Nat.le_refl _))
  have fD : FpOk X pins H1 D := I2.fpOk hb.newD (I2.hok.fresh hb.newD)
  have fC : FpOk X pins H1 C := I2.fpOk hb.newC (I2.hok.fresh hb.newC)
  have big := I1.big
  generalize hit : s1.heap.objs.size = it at *
  have hsz : ∀ o : Obj, (s1.heap.push o).objs.size = it + 1 := fun o => by rw [Heap.size_push, hit]
  have hDn : it + 1 ≤ D := by
    have := hb.newD
    rwa [hsz] at this
  have hCn : it + 1 ≤ C := by
    have := hb.newC
    rwa [hsz] at this
  have I3 : Inv X pins σ H1 s3 := by
    obtain ⟨h3, t3, e3⟩ := hb.only
    have old := hb.old
    rw [e3] at old ⊢
    exact I2.kept old
  have rawSame : ∀ {h h' : Heap} {xs : List Ent}, (∀ o, h.get? D = some o → h'.get? D = some o) → RawD X.prog X.w h D xs → RawD X.prog X.w h' D xs := fun {h h' xs} k ⟨o, es, ep, e, r⟩ => ⟨o, es, ep, k o e, r⟩
  have nsSame : ∀ {h h' : Heap} {m : Str → Option Value}, (∀ o, h.get? C = some o → h'.get? C = some o) → h.Ns C m → h'.Ns C m := fun {h h' m} k ⟨o, es, ep, e, r⟩ => ⟨o, es, ep, k o e, r⟩
  refine ⟨fun i s' => Inv X pins σ H1 s' ∧ RawD X.prog X.w s'.heap D (rowsT (ps.take i)) ∧ ∃ m, s'.heap.Ns C m, ⟨I3, ⟨_, #[], 0, hD, ⟨rfl, rfl, rfl⟩, rfl, rfl, List.nodup_nil⟩, _, hb.names⟩, ?_, ?_, ?_⟩
  · rintro i s' h' tk ⟨I', R', m, N'⟩ k _
    have k' : ∀ b o, b ≠ it → s'.heap.get? b = some o → h'.get? b = some o := fun b o hb => k b o (by simpa using hb)
    obtain ⟨f0, f1, f2, f3, f4, f5⟩ := fI
    exact ⟨I'.turned k' f0 f1 f3 f4 f5, rawSame (fun o => k' D o (by omega)) R', m, nsSame (fun o => k' C o (by omega)) N'⟩
  · rintro i v s' hi hv st ⟨I', R', m, N'⟩
    have hil : i < ps.length := by
      rw [← hlen]
      simpa using hi
    obtain ⟨u, hu1, hu2⟩ := rel.get (show (ps.map fun z => V.ref z.1)[i]? = some (V.ref ps[i].1) by rw [List.getElem?_map, List.getElem?_eq_getElem hil]; rfl)
    have hv' : its[i]? = some v := by simpa using hv
    obtain rfl : u = v := Option.some.inj (hu1.symm.trans hv')
    obtain rfl : u = Value.ref ps[i].1 := hu2
    have hzi := hz ps[i] (List.getElem_mem hil)
    have etk : ps.take (i + 1) = ps.take i ++ [ps[i]] := by
      rw [List.take_succ, List.getElem?_eq_getElem hil]
      rfl
    have hsub : ∀ x ∈ rowsT (ps.take i), SqT X.K H1 x.2.1 (x.1.map kV) := rowsT_sub fun z hm => hz z (List.mem_of_mem_take hm)
    have hrl : (rowsT (ps.take i)).length ≤ sizeLine := by
      rw [List.length_map] at hzl
      exact Nat.le_trans (rowsT_len _) (Nat.le_trans (List.length_take_le' _ _) hzl)
    generalize ps[i] = z at hzi etk
    have ek : (compEnvC scope (cloFrom X.env.cells scope.names []) C X.env).scope.kind = ScopeKind.function := hk
    refine wpAny_assign_Name (wpAny_storeName_local (env := compEnvC scope _ C X.env) (lookup_relabel_local hx) N' (fun h1 N1 sb1 => ?_) (by rw [ek]; rfl))
    have I4 : Inv X pins σ H1 { s' with heap := h1, toks := s'.toks + 1 } := by
      obtain ⟨f0, f1, f2, f3, f4, f5⟩ := fC
      exact I'.turned (fun b o hb e => (sb1.2 b hb).trans e) f0 f1 f3 f4 f5
    refine wpAny_pure ?_
    rw [if_pos rfl]
    refine wpAny_Name (wpAny_loadName_local ek (lookup_relabel_local hx) N1 (v := .ref z.1) (if_pos rfl) ?_) hdb
    refine Constant_bool ?_
    have R4 : RawD X.prog X.w h1 D (rowsT (ps.take i)) := rawSame (fun o e => (sb1.2 D hb.ne).trans e) R'
    refine wpAny_dictSet_heap (knd := tupleKind (mixKind X.prog X.w)) (show X.A.units < cLine by omega) (key_sq I4 hzi) (raw_dict I4 R4 hsub) (fun h2 dd sb2 => ?_) hrl
    have I5 : ∀ t' : Nat, Inv X pins σ H1 { s' with heap := h2, toks := t' } := fun t' => by
      obtain ⟨f0, f1, f2, f3, f4, f5⟩ := fD
      exact I4.turned (t' := t') (fun b o hb e => (sb2.2 b hb).trans e) f0 f1 f3 f4 f5
    obtain ⟨o, es, ep, d1, d2, d3, d4, _, d5⟩ := dd
    have both : ∀ b o, b ≠ C → b ≠ D → s'.heap.get? b = some o → h2.get? b = some o := fun b o h3 h4 e => (sb2.2 b h4).trans ((sb1.2 b h3).trans e)
    refine ⟨⟨I5 _, ?_, _, nsSame (fun o e => (sb2.2 C hb.ne.symm).trans e) N1⟩, ?_, ?_⟩
    · rw [etk, rowsT_snoc]
      exact ⟨o, es, ep, d1, d2, d3, d4, d5⟩
    · obtain ⟨o, e, r⟩ := st.1
      exact ⟨o, both it o (Nat.ne_of_lt hCn) (Nat.ne_of_lt hDn) e, r⟩
    · obtain ⟨o, e, r⟩ := st.2
      exact ⟨o, both a o (Nat.ne_of_lt (Nat.lt_trans hat hCn)) (Nat.ne_of_lt (Nat.lt_trans hat hDn)) e, r⟩
  · rintro s' ⟨I', R', m, N'⟩
    refine ⟨m, N', fun h' sb => ⟨.ref D, _, ?_, rfl, q D fD.1⟩⟩
    have I4 : Inv X pins σ H1 { s' with heap := h', toks := s'.toks } := by
      obtain ⟨f0, f1, f2, f3, f4, f5⟩ := fC
      exact I'.turned (fun b o hb e => (sb.2 b hb).trans e) f0 f1 f3 f4 f5
    have R4 := rawSame (fun o e => (sb.2 D hb.ne).trans e) R'
    have en : ps.take its.toArray.size = ps := by
      rw [List.size_toArray, hlen, List.take_length]
    rw [en] at R4
    exact I4.take (t' := s'.toks) (fun b o _ e => e) fD (rd_new (beq_eq_false_iff_ne.mpr (Nat.ne_of_gt (Nat.lt_of_lt_of_le big (by omega)))) R4)
end
end LB

/-! Dicts whose keys are rows, by what is known. -/
namespace K24
open PySem L2 KS GL LB K24m ML
open PySem.Spec hiding Row
open PyProof.Rows hiding cnt
theorem atKey_stored (xs : List Ent) (k j : List Key) (a : Addr) (v : Value) : (atKey (storedH xs k a v) j).isSome = ((atKey xs j).isSome || decide (k = j)) := by
  have any : ∀ (xs : List Ent) (j : List Key), (atKey xs j).isSome = xs.any fun x => decide (x.1 = j) := fun xs j => by
    unfold atKey
    rw [Option.isSome_map, List.isSome_find?]
  rw [any, any]
  unfold storedH
  rw [any]
  split
  · rename_i h
    rw [List.any_map]
    have e : (xs.any ((fun x => decide (x.1 = j)) ∘ putAt k v)) = xs.any fun x => decide (x.1 = j) := by
      refine congrArg xs.any (funext fun x => ?_)
      show decide ((putAt k v x).1 = j) = _
      unfold putAt
      split <;> rfl
    rw [e]
    by_cases hk : k = j
    · subst hk
      rw [h, decide_eq_true rfl]
      rfl
    · rw [decide_eq_false hk, Bool.or_false]
  · rw [List.any_append]
    simp
theorem atKey_rows : ∀ (ps : List (Addr × List Key)) (j : List Key), (atKey (rowsT ps) j).isSome = ps.any fun z => decide (z.2 = j) := by
  intro ps j
  have go : ∀ (ps : List (Addr × List Key)) (acc : List Ent), (atKey (ps.foldl (fun acc z => storedH acc z.2 z.1 (.bool true)) acc) j).isSome = ((atKey acc j).isSome || ps.any fun z => decide (z.2 = j)) := by
    intro ps
    induction ps with
    | nil => exact fun acc => by simp
    | cons z ps ih =>
      intro acc
      rw [List.foldl_cons, ih, atKey_stored, List.any_cons, Bool.or_assoc]
  exact go ps []
def dr (P : Program) (w : World) (K : PySem.W.Frag) (R : List Row) : Res := ⟨fun H0 H v f => ∃ (a : Addr) (xs : List Ent), v = .ref a ∧ (∀ z, f z ↔ z = a) ∧ H0 a = none ∧ H a = some (RDo P w a xs) ∧ (∀ x ∈ xs, SqT K H0 x.2.1 (x.1.map kV)) ∧ ∀ r : Row, (atKey xs (rowK r)).isSome = decide (r ∈ R),
  fun {H0 H0' H H' v f} ⟨a, xs, e, hf, h1, h2, h3, h4⟩ s hk => ⟨a, xs, e, hf, (hk a ((hf a).mpr rfl)).2, by rw [(hk a ((hf a).mpr rfl)).1]; exact h2, fun x hx => sqT_mono s (h3 x hx), h4⟩,
  fun {H0 H v f z} ⟨a, xs, e, hf, h1, h2, h3, h4⟩ hz => by
    obtain rfl := (hf z).mp hz
    exact ⟨by rw [h2]; exact Option.some_ne_none _, h1⟩⟩
section
variable {P : Program} {w : World} {K : PySem.W.Frag} {ρ : MS} {Q : Rt → MS → Prop} {te ty : TE}
theorem ev_dcR (h : ev te ρ fun r ρ1 => ∃ R : List Row, r = .val (dat K (.tuple (R.map rowD))) ∧ Q (.val (dr P w K R)) ρ1) : ev (tDcR P w K te) ρ Q := by
  intro σ H0 H G k S hk
  refine h σ H0 H G _ S fun r ρ1 v f H1 H1' ⟨R, e, q⟩ p => ?_
  subst e
  have S1 : Sat ρ1 σ H1 H1' G := p.sat.frame fun _ => .inl
  have hv := p.rt.1
  cases hv with
  | tup a1 a2 =>
    obtain ⟨rs, rfl, er, hR⟩ := unrow a2
    have hR' : ∀ z ∈ rs.map fun q => (q.1, rowK q.2), SqT K H1 z.1 (z.2.map kV) := fun z hz => by
      obtain ⟨q, hq, rfl⟩ := List.mem_map.mp hz
      exact hR q hq
    refine ⟨_, rs.map fun q => (q.1, rowK q.2), rfl, ?_, fun z hz => sqT_mono S1.same (hR' z hz), fun d hd => ?_⟩
    · rw [List.map_map]
      exact sqT_mono S1.same a1
    · refine hk _ _ _ (fun a => a = d) _ _ q ⟨⟨p.ext.s0, fun a ha => ?_⟩, ⟨d, _, rfl, fun _ => Iff.rfl, S1.same.free hd, upd_same, rowsT_sub hR', fun r => ?_⟩, fun a e ha => (S1.fr a ha).1 (by rw [e]; exact hd), S1.own hd⟩
      · have ad : a ≠ d := fun e => (S1.fr a ha).1 (by rw [e]; exact hd)
        rw [upd_ne ad]
        exact p.ext.fr a ha
      · rw [atKey_rows, List.any_map, ← er, Bool.eq_iff_iff, List.any_eq_true, decide_eq_true_eq, List.mem_map]
        constructor
        · rintro ⟨q, hq, e⟩
          exact ⟨q, hq, rowK_inj (of_decide_eq_true e)⟩
        · rintro ⟨q, hq, e⟩
          exact ⟨q, hq, decide_eq_true (by rw [← e])⟩
theorem ev_ninR {i : Nat} (h : ev ty ρ fun r1 ρ1 => ∃ x : Row, r1 = .val (dat K (rowD x)) ∧ ∃ R, ρ1[i]? = some (some (dr P w K R)) ∧ Q (.val (dat K (.bool (!decide (x ∈ R))))) ρ1) : ev (tNinR P w K ty (tVar i)) ρ Q := by
  intro σ H0 H G kk S hk
  refine h σ H0 H G _ S fun r1 ρ1 v1 f1 H1 H1' ⟨x, e, R, hi, q⟩ p1 => ?_
  subst e
  have S1 : Sat ρ1 σ H1 H1' G := p1.sat.frame fun _ => .inl
  obtain ⟨p, rfl, hp⟩ := row_one p1.rt.1
  obtain ⟨v, f, ev', ⟨a, xs, rfl, hf, h1, h2, h3, h4⟩, _⟩ := S1.get hi
  refine ⟨.ref a, ev', a, p, xs, rowK x, rfl, rfl, h2, sqT_mono S1.same hp, fun y hy => sqT_mono S1.same (h3 y hy), ?_⟩
  rw [h4 x]
  exact hk _ _ _ _ _ _ q (post_ext p1.ext (post_pure S1 (.bl _)))
end
end K24

/-! y in x by an own __contains__; a row in rows. -/
namespace LB
open PySem PySem.Spec PyProof.Rows L2 KS GL
/-- the two, y ahead of x; x an instance of the class at C -/
def tSwapI (C : Addr) (td ty : TE) : TA := fun σ H Q => ty σ H fun y H1 => td σ H1 fun x H2 => ∃ a dx fs, x = .ref a ∧ H2 a = some (.ins C dx fs) ∧ Q [x, y] H2
def tInOwn (C : Addr) (sp : Sp) (E : XK) (ty td : TE) : TE := fun σ H Q => tCall sp [] E (tSwapI C td ty) σ H fun v H3 => (∃ b, v = .bl b) ∧ Q v H3
theorem pc_inOwn {X : Cx} {CX : CXT} {C f : Addr} {fd : FuncData} {ps : List Str} {sp : Sp} {E : XK} {k : Nat} {i o : Expr} {ty td : TE} (hm : PySem.W.findIn X.K (.ref C) "__contains__" = some (some (.ref f))) (hf : PySem.W.isFn X.K (.ref f) = true)
    (F : FnG X.prog X.w X.K X.mg X.base CX k f fd ps sp) (hr : RoomG k X.A) (hb : Binds X.K fd ps []) (hx : Passes CX X E) (hi : PE X i ty) (ho : PE X o td) : PC X .In i o (tInOwn C sp E ty td) := by
  refine ⟨fun pins s σ H Q I h => ?_⟩
  refine thn (hi.run pins s σ H _ I h) fun iv s1 ⟨y, H1, I1, ry, q1⟩ => thn (ho.run pins s1 σ H1 _ I1 q1) fun u s2 ⟨x, H2, I2, rx, a, dx, fs, ex, g, q2⟩ => ?_
  subst ex
  obtain rfl : u = Value.ref a := rx
  obtain ⟨m, F0⟩ := I2.fr
  obtain ⟨mA, O, _⟩ := ins_get I2.hok g
  obtain ⟨od, inst, _⟩ := O.look
  refine PySem.W.in_K F0 I2.ok.mod.kin inst hm hf (thn (run_fnG (us := [.ref a, iv]) (vs := [.ref a, y]) F hr hb .nil hx I2 (.cons rfl (.cons ry .nil)) q2) fun v s3 ⟨v', H3, I3, rv, ⟨b, e⟩, q3⟩ => ?_)
  subst e
  obtain rfl : v = Value.bool b := rv
  exact wpAny_truthy_bool ⟨.bl b, H3, I3, rfl, q3⟩
end LB
namespace K24
open PySem L2 KS GL LB K24m ML
open CH (ChC ChartAt cf cf_arrows cf_states ChartOk spInit)
open PySem.Spec hiding Row
open PyProof.Rows hiding cnt
section
variable {K : PySem.W.Frag} {ρ : MS} {Q : Rt → MS → Prop} {ty td : TE} {C : Addr}
theorem evA_swap {Q : List Rt → MS → Prop} (h : ev ty ρ fun r1 ρ1 => ∃ P1 : Pd, r1 = .val (pu P1) ∧ ev td ρ1 fun r2 ρ2 => ∃ (n : Nat) (R : List Row), r2 = .val (pu (chartP K C n R)) ∧ Q [.val (pu (chartP K C n R)), .val (pu P1)] ρ2) : evA (tSwapI C td ty) ρ Q := by
  intro σ H0 H G k S hk
  refine h σ H0 H G _ S fun r1 ρ1 y f1 H1 H1' ⟨P1, e1, h1⟩ p1 => ?_
  subst e1
  refine h1 σ H1 H1' G _ (p1.sat.frame fun _ => .inl) fun r2 ρ2 x f2 H2 H2' ⟨n, R, e2, q⟩ p2 => ?_
  subst e2
  have hch := p2.rt.1
  obtain ⟨p, dx, a, o, rs, e, g, _⟩ := id hch
  refine ⟨p, dx, _, e, p2.sat.same _ _ g, ?_⟩
  exact hk _ ρ2 [x, y] (fun _ => False) H2 H2' q ⟨p1.ext.trans p2.ext, ⟨x, [y], fun _ => False, fun _ => False, rfl, ⟨hch, fun _ h => h⟩, ⟨y, [], fun _ => False, fun _ => False, rfl, ⟨P1.mono p1.rt.1 p2.ext.s0, fun _ h => h⟩, ⟨rfl, fun _ h => h⟩, fun _ => by simp, fun _ h => h.elim⟩, fun _ => by simp, fun _ h => h.elim⟩,
    fun _ h => h.elim, p2.sat.frame fun a ha => .inl (ha.resolve_right id)⟩
theorem ev_inOwn {M : MSp} (h : ev ty ρ fun r1 ρ1 => ∃ P1 : Pd, r1 = .val (pu P1) ∧ ev td ρ1 fun r2 ρ2 => ∃ (n : Nat) (R : List Row), r2 = .val (pu (chartP K C n R)) ∧ call0 M [.val (pu (chartP K C n R)), .val (pu P1)] ρ2 fun r ρ3 => ∃ b, r = .val (dat K (.bool b)) ∧ Q r ρ3) : ev (tInOwn C (spOf 0 M) E0 ty td) ρ Q := by
  intro σ H0 H G k S hk
  refine ev_call (Q := fun r ρ3 => ∃ b, r = .val (dat K (.bool b)) ∧ Q r ρ3) (evA_swap h) σ H0 H G _ S fun r ρ' v f H1 H1' ⟨b, e, q⟩ p => ⟨?_, hk r ρ' v f H1 H1' q p⟩
  subst e
  have hv := p.rt.1
  cases hv
  exact ⟨b, rfl⟩
end
/-- a row among rows -/
def rInRow (K : PySem.W.Frag) (neg : Bool) : R2 := fun x y H Q => ∃ (r : Row) (R : List Row), Dp K H x (rowD r) ∧ (Dp K H y (.list (R.map rowD)) ∨ Dp K H y (.tuple (R.map rowD))) ∧ Lbl r ∧ (∀ z ∈ R, Lbl z) ∧ Q (.bl (if neg then !decide (r ∈ R) else decide (r ∈ R))) H
theorem any_rows (r : Row) : ∀ R : List Row, ((R.map rowD).any fun y => PyData.eqv y (rowD r)) = decide (r ∈ R)
  | [] => rfl
  | x :: R => by
    rw [List.map_cons, List.any_cons, any_rows r R, eqv_row, Bool.eq_iff_iff, Bool.or_eq_true, decide_eq_true_eq, decide_eq_true_eq, decide_eq_true_eq, List.mem_cons]
    exact or_congr ⟨Eq.symm, Eq.symm⟩ Iff.rfl
theorem op_inRow {X : Cx} (hu : X.A.units + 64 < cLine) : OpR X (compareOp .In) (rInRow X.K false) := by
  intro pins s σ H x y v u Q I rx ry h
  obtain ⟨r, R, hd, he, lr, lR, q⟩ := h
  obtain ⟨as, r1⟩ := Dp.reads I (rowD r) x v hd rx
  have hun : X.A.units + 1 + min (PyData.depthAll (R.map rowD)) (rowD r).depth < cLine := by
    have := depth_row r
    omega
  have q' : EP X pins σ Q (.bool ((R.map rowD).any fun y => PyData.eqv y (rowD r))) s := by
    rw [any_rows]
    exact ⟨.bl _, H, I, rfl, q⟩
  rcases he with he | he
  · obtain ⟨bs, r2⟩ := Dp.reads I _ y u he ry
    exact SeqAt.in_list_reads r2 r1 (lay_rowsL R lR) (lay_row lr) hun q'
  · obtain ⟨bs, r2⟩ := Dp.reads I _ y u he ry
    exact SeqAt.in_tuple_reads r2 r1 (lay_rowsL R lR) (lay_row lr) hun q'
theorem op_ninRow {X : Cx} (hu : X.A.units + 64 < cLine) : OpR X (compareOp .NotIn) (rInRow X.K true) := by
  intro pins s σ H x y v u Q I rx ry h
  obtain ⟨r, R, hd, he, lr, lR, q⟩ := h
  obtain ⟨as, r1⟩ := Dp.reads I (rowD r) x v hd rx
  have hun : X.A.units + 1 + min (PyData.depthAll (R.map rowD)) (rowD r).depth < cLine := by
    have := depth_row r
    omega
  have q' : EP X pins σ Q (.bool (!(R.map rowD).any fun y => PyData.eqv y (rowD r))) s := by
    rw [any_rows]
    exact ⟨.bl _, H, I, rfl, q⟩
  rcases he with he | he
  · obtain ⟨bs, r2⟩ := Dp.reads I _ y u he ry
    exact SeqAt.notIn_list_reads r2 r1 (lay_rowsL R lR) (lay_row lr) hun q'
  · obtain ⟨bs, r2⟩ := Dp.reads I _ y u he ry
    exact SeqAt.notIn_tuple_reads r2 r1 (lay_rowsL R lR) (lay_row lr) hun q'
theorem noD_rows {R : List Row} (h : ∀ z ∈ R, Lbl z) : PyData.hasDictAll (R.map rowD) = false := by
  have := PyData.hasDict_of_canLay (.list (R.map rowD)) (by rw [PyData.canLay0]; exact lay_rowsL R h)
  rw [PyData.hasDict] at this
  exact this
theorem op_inRows {K : PySem.W.Frag} {ρ : MS} {Q : Rt → MS → Prop} {r1 r2 : Rt} {neg : Bool} {x : Row} {d : PyData} (R : List Row) (h1 : rd K ρ r1 (rowD x)) (h2 : rd K ρ r2 d) (hd : seqD d R) (l1 : Lbl x) (l2 : ∀ z ∈ R, Lbl z) (q : Q (.val (dat K (.bool (if neg then !decide (x ∈ R) else decide (x ∈ R))))) ρ) : opR (rInRow K neg) r1 r2 ρ Q :=
  op_sc h1 h2 (fun H v1 v2 k e1 e2 hk => ⟨x, R, Da.dp _ _ e1 (PyData.hasDict_of_canLay _ (lay_row l1)), hd.imp (fun e => by rw [← e]; exact Da.dp _ _ e2 (by rw [e, PyData.hasDict]; exact noD_rows l2)) (fun e => by rw [← e]; exact Da.dp _ _ e2 (by rw [e, PyData.hasDict]; exact noD_rows l2)), l1, l2, hk _ (.bl _)⟩) q
end K24

/-! Any data, dicts among them, against a row, among rows, against (): rules. -/
namespace EqQ
open PySem PySem.SeqAt PyProof.Rows L2 KS GL LB ML
open PySem.Spec hiding Row
open K24 (Row rowD Lbl lay_row lay_rowsL depth_row depth_rowsL)
/-! ### what data read as -/
section
variable {X : Cx} {pins : List (Addr × Obj)} {σ : L2.St} {H : Hp} {s : Shared}
mutual
theorem Da_reads (I : Inv X pins σ H s) : ∀ {d : PyData} {v : V}, Da X.K H v d → ∀ {u : Value}, RelV v u → ∃ as, Reads s.heap u d as
  | _, _, .non, u, r => by
    cases r
    exact ⟨_, .none⟩
  | _, _, .bl b, u, r => by
    cases r
    exact ⟨_, .bool b⟩
  | _, _, .int i, u, r => by
    obtain ⟨t, rfl⟩ := r
    exact ⟨_, .int i t⟩
  | _, _, .str x, u, r => by
    obtain ⟨t, rfl⟩ := r
    exact ⟨_, .str x t⟩
  | _, _, .lst h1 h2, u, r => by
    cases r
    obtain ⟨its, rv, ⟨o, n, ho, hc, _, hd⟩, _⟩ := I.list (.inl (.inl h1))
    obtain ⟨as, q⟩ := Da_readsAll I h2 rv
    exact ⟨_, .list ho hc hd q⟩
  | _, _, .tup h1 h2, u, r => by
    cases r
    obtain ⟨its, rv, ⟨o, ho, hc, n, hd⟩, _⟩ := I.tuple h1
    obtain ⟨as, q⟩ := Da_readsAll I h2 rv
    exact ⟨_, .tuple ho hc hd q⟩
  | _, _, .dct (kvs := kvs) (ds := ds) h1 h2, u, r => by
    cases r
    obtain ⟨_, o, es, n, ho, hc, hd, ⟨as1, k1⟩, rv⟩ := dct_of I h1
    obtain ⟨as, q⟩ := Da_readsAll I h2 rv
    have hl : kvs.length = ds.length := by rw [← h2.len, List.length_map]
    exact ⟨_, .dict ho hc hd (by rw [zip_fst hl]; exact k1) (by rw [zip_snd hl]; exact q)⟩
theorem Da_readsAll (I : Inv X pins σ H s) : ∀ {ds : List PyData} {vs : List V}, DaAll X.K H vs ds → ∀ {us : List Value}, Vals vs us → ∃ as, ReadsAll s.heap us ds as
  | _, _, .nil, us, r => by
    cases r
    exact ⟨_, .nil⟩
  | _, _, .cons h1 h2, us, r => by
    cases r with
    | cons r1 r2 =>
      obtain ⟨as, q1⟩ := Da_reads I h1 r1
      obtain ⟨bs, q2⟩ := Da_readsAll I h2 r2
      exact ⟨_, .cons q1 q2⟩
end
end
/-! ### compared -/
section
variable {A : Around} {s : Shared}
theorem int_any (i : Int) (t : Tok) {u : Value} {d : PyData} {as : List Addr} (r : Reads s.heap u d as) (hu : A.units < cLine) : EqAt A s (.int i t) u (PyData.eqv (.int i) d) := by
  cases r with
  | none => exact EqAt.int_none i t
  | bool y => exact EqAt.int_bool i t y
  | int y u => exact EqAt.int_int i t y u
  | str y u => exact EqAt.int_str i t y u
  | list k1 k2 k3 k4 => exact EqAt.int_list i t ⟨_, k1, k2, _, k3⟩ hu
  | tuple k1 k2 k3 k4 => exact EqAt.int_tuple i t ⟨_, k1, k2, _, k3⟩ hu
  | dict k1 k2 k3 k4 k5 => exact int_dict i t k1 k2 k3 hu
theorem str_any (i : Str) (t : Tok) {u : Value} {d : PyData} {as : List Addr} (r : Reads s.heap u d as) (hu : A.units < cLine) : EqAt A s (.str i t) u (PyData.eqv (.str i) d) := by
  cases r with
  | none => exact EqAt.str_none i t
  | bool y => exact EqAt.str_bool i t y
  | int y u => exact EqAt.str_int i t y u
  | str y u => exact EqAt.str_str i t y u
  | list k1 k2 k3 k4 => exact EqAt.str_list i t ⟨_, k1, k2, _, k3⟩ hu
  | tuple k1 k2 k3 k4 => exact EqAt.str_tuple i t ⟨_, k1, k2, _, k3⟩ hu
  | dict k1 k2 k3 k4 k5 => exact str_dict i t k1 k2 k3 hu
/-- ints and texts -/
def Atom : PyData → Prop
  | .int _ => True
  | .str _ => True
  | _ => False
theorem atom_any {x : PyData} (hx : Atom x) {v u : Value} {d : PyData} {as bs : List Addr} (r : Reads s.heap v x as) (r' : Reads s.heap u d bs) (hu : A.units < cLine) : EqAt A s v u (PyData.eqv x d) := by
  cases r with
  | int y t => exact int_any y t r' hu
  | str y t => exact str_any y t r' hu
  | none => exact hx.elim
  | bool y => exact hx.elim
  | list _ _ _ _ => exact hx.elim
  | tuple _ _ _ _ => exact hx.elim
  | dict _ _ _ _ _ => exact hx.elim
theorem atoms_any {s : Shared} : ∀ {xs ys : List PyData} {vs ws : List Value} {as bs : List Addr}, (∀ x ∈ xs, Atom x) → ReadsAll s.heap vs xs as → ReadsAll s.heap ws ys bs → A.units < cLine → ∀ j (h1 : j < vs.length) (h2 : j < ws.length), EqAt A s vs[j] ws[j] (pairEq xs ys j)
  | [], _, _, _, _, _, _, ra, _, _, j, h1, _ => by cases ra; exact absurd h1 (Nat.not_lt_zero _)
  | _ :: _, [], _, _, _, _, _, _, rb, _, j, _, h2 => by cases rb; exact absurd h2 (Nat.not_lt_zero _)
  | x :: xs, y :: ys, _, _, _, _, hx, ra, rb, hu, j, h1, h2 => by
    cases ra with
    | cons r rs =>
      cases rb with
      | cons r' rs' =>
        cases j with
        | zero => exact atom_any (hx x List.mem_cons_self) r r' hu
        | succ j => exact atoms_any (fun z hz => hx z (List.mem_cons_of_mem _ hz)) rs rs' hu j (Nat.lt_of_succ_lt_succ h1) (Nat.lt_of_succ_lt_succ h2)
theorem row_any {r : Row} (lr : Lbl r) {v u : Value} {ys : List PyData} {as bs : List Addr} (ra : Reads s.heap v (rowD r) as) (rb : Reads s.heap u (.tuple ys) bs) (hu : A.units + 1 < cLine) : EqAt A s v u (PyData.eqv (rowD r) (.tuple ys)) := by
  have hat : ∀ x ∈ [PyData.int r.1, .str r.2.1, .int r.2.2], Atom x := by
    intro x hx
    simp only [List.mem_cons, List.not_mem_nil, or_false] at hx
    rcases hx with rfl | rfl | rfl <;> exact trivial
  have ra0 := ra
  unfold rowD at ra ⊢
  cases ra with
  | @tuple l o vs n _ as₁ h1 h2 h3 h4 =>
    have hl : s.heap.IsTuple l vs := ⟨_, h1, h2, _, h3⟩
    have hu0 : A.units < cLine := by omega
    cases rb with
    | @tuple l' o' vs' n' _ bs₁ k1 k2 k3 k4 =>
      have hl' : s.heap.IsTuple l' vs' := ⟨_, k1, k2, _, k3⟩
      have n1 : vs.size = [PyData.int r.1, .str r.2.1, .int r.2.2].length := by simpa using ReadsAll.length _ _ _ h4
      have n2 : vs'.size = ys.length := by simpa using ReadsAll.length _ _ _ k4
      rw [PyData.eqv]
      by_cases hll : l = l'
      · subst hll
        have e : rowD r = PyData.tuple ys := Reads.unique (rowD r) (.tuple ys) _ _ _ (lay_row lr) ra0 (.tuple k1 k2 k3 k4)
        unfold rowD at e
        injection e with e
        subst e
        have hlay : PyData.canLayAll0 [PyData.int r.1, .str r.2.1, .int r.2.2] = true := by
          have := lay_row lr
          unfold rowD at this
          rw [PyData.canLay0] at this
          exact this
        rw [eqvAll_refl _ hlay]
        exact EqAt.same _
      · rw [← eqvAll_eq _ ys, ← n1, ← n2]
        refine EqAt.of_refs hll (RcAt.tuples hl hl' hu0 fun j j1 j2 => ?_)
        have := atoms_any (A := A.in1) hat h4 k4 (by show A.units + 1 < cLine; exact hu) j (by simpa using j1) (by simpa using j2)
        simpa using this
theorem mem_reads {h : Heap} : ∀ {xs : List PyData} {vs : List Value} {as : List Addr}, ReadsAll h vs xs as → ∀ y ∈ vs, ∃ d ∈ xs, ∃ bs, Reads h y d bs
  | [], _, _, r, y, hy => by cases r; cases hy
  | x :: xs, _, _, r, y, hy => by
    cases r with
    | cons r1 r2 =>
      rcases List.mem_cons.mp hy with rfl | hy
      · exact ⟨x, List.mem_cons_self, _, r1⟩
      · obtain ⟨d, hd, bs, rd⟩ := mem_reads r2 y hy
        exact ⟨d, List.mem_cons_of_mem _ hd, bs, rd⟩
theorem rows_any {R : List Row} (lR : ∀ z ∈ R, Lbl z) {vs : Array Value} {as bs : List Addr} {u : Value} {ys : List PyData} (rs : ReadsAll s.heap vs.toList (R.map rowD) as) (ru : Reads s.heap u (.tuple ys) bs) (hu : A.units + 2 < cLine) :
    ∀ y, y ∈ vs → EqAt A.in1 s y u (PyData.eqv (readOf s.heap y) (.tuple ys)) := fun y hy => by
  obtain ⟨d, hd, cs, rd⟩ := mem_reads rs y (by simpa using hy)
  obtain ⟨z, hz, rfl⟩ := List.mem_map.mp hd
  rw [readOf_eq (lay_row (lR z hz)) rd]
  exact row_any (lR z hz) rd ru (by show A.units + 1 + 1 < cLine; omega)
end
/-- is it one of the rows -/
def rowIn (R : List Row) (ys : List PyData) : Bool := R.any fun z => PyData.eqv (rowD z) (.tuple ys)
/-- a tuple of any data among rows -/
def rInAny (K : PySem.W.Frag) (neg : Bool) : R2 := fun x y H Q => ∃ (ys : List PyData) (R : List Row), Da K H x (.tuple ys) ∧ (Da K H y (.list (R.map rowD)) ∨ Da K H y (.tuple (R.map rowD))) ∧ (∀ z ∈ R, Lbl z) ∧ Q (.bl (if neg then !rowIn R ys else rowIn R ys)) H
theorem any_rowIn (R : List Row) (ys : List PyData) : ((R.map rowD).any fun y => PyData.eqv y (.tuple ys)) = rowIn R ys := by
  unfold rowIn
  rw [List.any_map]
  rfl
theorem op_inAny {X : Cx} (hu : X.A.units + 64 < cLine) : OpR X (compareOp .In) (rInAny X.K false) := by
  intro pins s σ H x y v u Q I rx ry h
  obtain ⟨ys, R, hx, hy, lR, q⟩ := h
  obtain ⟨as, r1⟩ := Da_reads I hx rx
  have q' : EP X pins σ Q (.bool (rowIn R ys)) s := ⟨.bl _, H, I, rfl, q⟩
  rcases hy with hy | hy
  · obtain ⟨bs, r2⟩ := Da_reads I hy ry
    cases r2 with
    | list h1 h2 h3 h4 => exact in_listAt _ ⟨_, h1, h2, _, h3⟩ (rows_any lR h4 r1 (by omega)) (by rw [any_by_data h4 (lay_rowsL R lR), any_rowIn]; exact q')
  · obtain ⟨bs, r2⟩ := Da_reads I hy ry
    cases r2 with
    | tuple h1 h2 h3 h4 => exact in_tupleAt _ ⟨_, h1, h2, _, h3⟩ (rows_any lR h4 r1 (by omega)) (by rw [any_by_data h4 (lay_rowsL R lR), any_rowIn]; exact q')
theorem op_ninAny {X : Cx} (hu : X.A.units + 64 < cLine) : OpR X (compareOp .NotIn) (rInAny X.K true) := by
  intro pins s σ H x y v u Q I rx ry h
  obtain ⟨ys, R, hx, hy, lR, q⟩ := h
  obtain ⟨as, r1⟩ := Da_reads I hx rx
  have q' : EP X pins σ Q (.bool (!rowIn R ys)) s := ⟨.bl _, H, I, rfl, q⟩
  rcases hy with hy | hy
  · obtain ⟨bs, r2⟩ := Da_reads I hy ry
    cases r2 with
    | list h1 h2 h3 h4 => exact notIn_listAt _ ⟨_, h1, h2, _, h3⟩ (rows_any lR h4 r1 (by omega)) (by rw [any_by_data h4 (lay_rowsL R lR), any_rowIn]; exact q')
  · obtain ⟨bs, r2⟩ := Da_reads I hy ry
    cases r2 with
    | tuple h1 h2 h3 h4 => exact notIn_tupleAt _ ⟨_, h1, h2, _, h3⟩ (rows_any lR h4 r1 (by omega)) (by rw [any_by_data h4 (lay_rowsL R lR), any_rowIn]; exact q')
/-- a tuple, a == (), a != () -/
def rEqNil (K : PySem.W.Frag) (neg : Bool) : R2 := fun x y H Q => ∃ (ys : List PyData), Da K H x (.tuple ys) ∧ Da K H y (.tuple []) ∧ Q (.bl (if neg then !ys.isEmpty else ys.isEmpty)) H
theorem nil_all {n m : Nat} {e : Nat → Bool} (hm : m = 0) : ((List.range (min n m)).all e && n == m) = (n == 0) := by
  subst hm
  rw [Nat.min_zero]
  rfl
theorem isE {α : Type} (ys : List α) : (ys.length == 0) = ys.isEmpty := by cases ys <;> rfl
theorem op_eqNil {X : Cx} (hu : X.A.units + 64 < cLine) : OpR X (compareOp .Eq) (rEqNil X.K false) := by
  intro pins s σ H x y v u Q I rx ry h
  obtain ⟨ys, hx, hy, q⟩ := h
  obtain ⟨as, r1⟩ := Da_reads I hx rx
  obtain ⟨bs, r2⟩ := Da_reads I hy ry
  have q' : EP X pins σ Q (.bool ys.isEmpty) s := ⟨.bl _, H, I, rfl, q⟩
  cases r1 with
  | @tuple a o vs n _ _ h1 h2 h3 h4 =>
    cases r2 with
    | @tuple b o' vs' n' _ _ k1 k2 k3 k4 =>
      have n1 : vs.size = ys.length := by simpa using ReadsAll.length _ _ _ h4
      have n2 : vs'.size = 0 := by simpa using ReadsAll.length _ _ _ k4
      refine RcAt.tuples (e := fun _ => true) ⟨_, h1, h2, _, h3⟩ ⟨_, k1, k2, _, k3⟩ (by omega) (fun j _ j2 => absurd j2 (by omega)) X.prog X.w _ _ ?_
      rw [nil_all n2, n1, isE]
      exact q'
theorem op_neNil {X : Cx} (hu : X.A.units + 64 < cLine) : OpR X (compareOp .NotEq) (rEqNil X.K true) := by
  intro pins s σ H x y v u Q I rx ry h
  obtain ⟨ys, hx, hy, q⟩ := h
  obtain ⟨as, r1⟩ := Da_reads I hx rx
  obtain ⟨bs, r2⟩ := Da_reads I hy ry
  have q' : EP X pins σ Q (.bool (!ys.isEmpty)) s := ⟨.bl _, H, I, rfl, q⟩
  cases r1 with
  | @tuple a o vs n _ _ h1 h2 h3 h4 =>
    cases r2 with
    | @tuple b o' vs' n' _ _ k1 k2 k3 k4 =>
      have n1 : vs.size = ys.length := by simpa using ReadsAll.length _ _ _ h4
      have n2 : vs'.size = 0 := by simpa using ReadsAll.length _ _ _ k4
      refine RcNeAt.tuples (e := fun _ => true) ⟨_, h1, h2, _, h3⟩ ⟨_, k1, k2, _, k3⟩ (by omega) (fun j _ j2 => absurd j2 (by omega)) X.prog X.w _ _ ?_
      rw [nil_all n2, n1, isE]
      exact q'
/-! ### mirror -/
section
variable {K : PySem.W.Frag} {ρ : MS} {Q : Rt → MS → Prop} {r1 r2 : Rt} {neg : Bool} {ys : List PyData}
theorem op_inAny_ {d : PyData} (R : List Row) (h1 : rd K ρ r1 (.tuple ys)) (h2 : rd K ρ r2 d) (hd : K24.seqD d R) (l2 : ∀ z ∈ R, Lbl z) (q : Q (.val (dat K (.bool (if neg then !rowIn R ys else rowIn R ys)))) ρ) : opR (rInAny K neg) r1 r2 ρ Q :=
  op_sc h1 h2 (fun H v1 v2 k e1 e2 hk => ⟨ys, R, e1, hd.imp (fun e => by rw [← e]; exact e2) (fun e => by rw [← e]; exact e2), l2, hk _ (.bl _)⟩) q
theorem op_eqNil_ (h1 : rd K ρ r1 (.tuple ys)) (h2 : rd K ρ r2 (.tuple [])) (q : Q (.val (dat K (.bool (if neg then !ys.isEmpty else ys.isEmpty)))) ρ) : opR (rEqNil K neg) r1 r2 ρ Q :=
  op_sc h1 h2 (fun H v1 v2 k e1 e2 hk => ⟨ys, e1, e2, hk _ (.bl _)⟩) q
end
end EqQ

/-! isinstance of any data; two promises of one def put together. -/
namespace K24
open PySem PySem.Spec PyProof.Rows L2 KS GL LB ML
def kindT : PyData → String
  | .none => "NoneType"
  | .bool _ => "bool"
  | .int _ => "int"
  | .str _ => "str"
  | .list _ => "list"
  | .tuple _ => "tuple"
  | .dict _ => "dict"
def isTup : PyData → Bool
  | .tuple _ => true
  | _ => false
def isBool : PyData → Bool
  | .bool _ => true
  | _ => false
def isInt : PyData → Bool
  | .bool _ => true
  | .int _ => true
  | _ => false
def isStr : PyData → Bool
  | .str _ => true
  | _ => false
theorem da_ty {K : PySem.W.Frag} {H : Hp} {x : V} {d : PyData} (h : Da K H x d) : TyX K H x (.type (kindT d)) := by
  cases h with
  | non => exact .base .non
  | bl b => exact .base (.bl b)
  | int i => exact .base (.int i)
  | str x => exact .base (.str x)
  | lst h1 _ => exact .base (.lst h1)
  | tup h1 _ =>
    rcases h1 with (h | ⟨o, h⟩) | ⟨o, its, n, h, hc, _⟩
    · exact .base (.tup h)
    · exact .fTuple h
    · exact .kTuple h hc
  | dct h1 _ => exact .base (.dK h1)
section
variable {K : PySem.W.Frag}
theorem kit_tuple (d : PyData) : PySem.W.kitOne K (.type (kindT d)) (.type "tuple") = some (isTup d) := by
  have h : ∀ T ∈ ["NoneType", "bool", "int", "str", "list", "tuple", "dict"], kitB T "tuple" = some (decide (T = "tuple")) := by decide +kernel
  have z := h (kindT d) (by cases d <;> simp [kindT])
  refine kit_ty (z.trans ?_)
  cases d <;> simp [kindT, isTup]
theorem kit_bool (d : PyData) : PySem.W.kitOne K (.type (kindT d)) (.type "bool") = some (isBool d) := by
  have h : ∀ T ∈ ["NoneType", "bool", "int", "str", "list", "tuple", "dict"], kitB T "bool" = some (decide (T = "bool")) := by decide +kernel
  have z := h (kindT d) (by cases d <;> simp [kindT])
  refine kit_ty (z.trans ?_)
  cases d <;> simp [kindT, isBool]
theorem kit_int (d : PyData) : PySem.W.kitOne K (.type (kindT d)) (.type "int") = some (isInt d) := by
  have h : ∀ T ∈ ["NoneType", "bool", "int", "str", "list", "tuple", "dict"], kitB T "int" = some (decide (T ∈ ["bool", "int"])) := by decide +kernel
  have z := h (kindT d) (by cases d <;> simp [kindT])
  refine kit_ty (z.trans ?_)
  cases d <;> simp [kindT, isInt]
theorem kit_str (d : PyData) : PySem.W.kitOne K (.type (kindT d)) (.type "str") = some (isStr d) := by
  have h : ∀ T ∈ ["NoneType", "bool", "int", "str", "list", "tuple", "dict"], kitB T "str" = some (decide (T = "str")) := by decide +kernel
  have z := h (kindT d) (by cases d <;> simp [kindT])
  refine kit_ty (z.trans ?_)
  cases d <;> simp [kindT, isStr]
variable {ρ : MS} {Q : Rt → MS → Prop} {te : TE}
theorem ev_isiA {T : String} {g : PyData → Bool} (hg : ∀ d, PySem.W.kitOne K (.type (kindT d)) (.type T) = some (g d)) (h : ev te ρ fun r ρ1 => ∃ d, rd K ρ1 r d ∧ Q (.val (dat K (.bool (g d)))) ρ1) : ev (tCB (rIsi K) (tCons te (tCons (tC (.ty T)) tNil))) ρ Q := by
  intro σ H0 H G k S hk
  refine h σ H0 H G _ S fun r ρ1 v f H1 H1' ⟨d, hr, q⟩ p => ?_
  have da := hr.da p.sat p.rt
  exact ⟨v, .ty T, _, _, g d, rfl, .ty _, da_ty da, hg d, hk _ _ _ _ _ _ q (post_ext p.ext (post_sc p.sat (fun _ => .inl) (.bl _)))⟩
end
theorem spOf_or {np : Nat} {M N : MSp} (vs : List V) (H : Hp) (Q : VK) (E : XK) (h : spOf np (fun Rs q => M Rs q ∨ N Rs q) vs H Q E) : spOf np M vs H Q E ∨ spOf np N vs H Q E := by
  obtain ⟨Rs, H0, G, q, S, h | h, fin⟩ := h
  · exact .inl ⟨Rs, H0, G, q, S, h, fin⟩
  · exact .inr ⟨Rs, H0, G, q, S, h, fin⟩
theorem FnG.or {P : Program} {w : World} {K : PySem.W.Frag} {mg : Str → Option Value} {base : Heap} {CX : CXT} {k : Nat} {f : Addr} {fd : FuncData} {ps : List Str} {sp sp' : Sp} (F : FnG P w K mg base CX k f fd ps sp) (F' : FnG P w K mg base CX k f fd ps sp') :
    FnG P w K mg base CX k f fd ps fun vs H Q E => sp vs H Q E ∨ sp' vs H Q E :=
  ⟨fun vs H Q E h => h.elim (F.len vs H Q E) (F'.len vs H Q E), fun A outer s H args us vs Q E hr e0 hb r h => h.elim (F.run A outer s H args us vs Q E hr e0 hb r) (F'.run A outer s H args us vs Q E hr e0 hb r)⟩
theorem FnG.orM {P : Program} {w : World} {K : PySem.W.Frag} {mg : Str → Option Value} {base : Heap} {CX : CXT} {k np : Nat} {f : Addr} {fd : FuncData} {ps : List Str} {M N : MSp} (F : FnG P w K mg base CX k f fd ps (spOf np M)) (F' : FnG P w K mg base CX k f fd ps (spOf np N)) :
    FnG P w K mg base CX k f fd ps (spOf np fun Rs q => M Rs q ∨ N Rs q) := (FnG.or F F').conv fun vs H Q E h => spOf_or vs H Q E h
end K24

/-! is_label, is_integer of other values. -/
namespace CH
open PySem PySem.Spec PyProof.Rows L2 KS GL LB ML
open K24 (isStr isInt isBool da_ty kit_str kit_int kit_bool)
section
variable {P : Program} {w : World} {K : PySem.W.Frag} {mg : Str → Option Value} {base : Heap}
def spLabelN (K : PySem.W.Frag) : Sp := fun vs H Q _ => ∃ (x : V) (d : PyData), vs = [x] ∧ Da K H x d ∧ isStr d = false ∧ Q (.bl false) H
theorem ok_labelN {f : Addr} {fd : FuncData} (F : Fun K "is_label" "is_label" sLabel f fd) (T : Blt2 mg) (C : Cst K mg) : FnOk P w K mg base CX0 1 f fd ["thing"] (spLabelN K) := by
  refine F.ok scLabel (fun vs H Q E h => ?_) (fun cdv A outer s H vs Q E hr h => ?_)
  · obtain ⟨_, _, rfl, _⟩ := h
    rfl
  · obtain ⟨x, d, rfl, da, hd, q⟩ := h
    obtain ⟨u1, g1, r1⟩ := C.c_LONGEST
    obtain ⟨u2, g2, r2⟩ := C.c_RESERVED
    obtain ⟨u3, g3, r3⟩ := C.c_LETTERS
    refine ⟨_, (pss_cons (ps_if (PW.pt (pw_or (pt_not (pt_val (pe_callB call_isi (by rfl) T.b_isinstance (by decide +kernel) (pa_cons (pv 0) (pa_cons (pe_bltn (u := .type "str") (v := .ty "str") rfl T.b_str (by decide +kernel) rfl) pa_nil))))) (pw_or (pt_not (pt_chain op_le op_le pe_int (pe_callB call_len_str (by rfl) T.b_len PySem.boot_len (pa_cons (pv 0) pa_nil)) (pe_glob rfl g1 r1))) (pw_or1 (pt_cmpR op_in_seq (pv 0) (pe_glob (v := .ref u2) rfl g2 rfl) (by rfl))))))
    (pss_one (ps_ret pe_bl))
    pss_nil)
  (pss_one (ps_ret (pe_callB (cr_all rfl) (by rfl) T.b_all (by decide +kernel) (pa_cons (pe_lc (own := [("sign", 1)]) (g := gName 1) (tt := tYes) rfl scLabel.nd (pi_str (pv 0)) (blkOk_by (own := [("sign", 1)]) (N := ["thing", "sign"]) (sc := defScope sLabel) (by decide +kernel)) (fun _ _ _ _ _ => (pg_name (i := 1) scLabel.nd rfl (Or.inl rfl))) (fun _ _ _ _ _ => pts_nil) (fun _ _ _ _ _ => (pe_cmpR op_in_sign (pv 1) (pe_glob rfl g3 r3) (by rfl)))) pa_nil))))), ?_⟩
    refine ⟨x, rfl, x, .ty "str", _, _, false, rfl, .ty _, da_ty da, by rw [← hd]; exact kit_str d, false, rfl, ?_⟩
    exact iteT q
def spIntN (K : PySem.W.Frag) : Sp := fun vs H Q _ => ∃ (x : V) (d : PyData), vs = [x] ∧ Da K H x d ∧ (isInt d = false ∨ isBool d = true) ∧ Q (.bl false) H
theorem ok_intN {f : Addr} {fd : FuncData} (F : Fun K "is_integer" "is_integer" sInt f fd) (T : Blt2 mg) : FnOk P w K mg base CX0 1 f fd ["thing"] (spIntN K) := by
  refine F.ok scInt (fun vs H Q E h => ?_) (fun cdv A outer s H vs Q E hr h => ?_)
  · obtain ⟨_, _, rfl, _⟩ := h
    rfl
  · obtain ⟨x, d, rfl, da, hd, q⟩ := h
    refine ⟨_, (pss_one (ps_ret (pe_and (pe_callB call_isi (by rfl) T.b_isinstance (by decide +kernel) (pa_cons (pv 0) (pa_cons (pe_bltn (u := .type "int") (v := .ty "int") rfl T.b_int (by decide +kernel) rfl) pa_nil))) (pe_one (pe_not (pe_callB call_isi (by rfl) T.b_isinstance (by decide +kernel) (pa_cons (pv 0) (pa_cons (pe_bltn (u := .type "bool") (v := .ty "bool") rfl T.b_bool (by decide +kernel) rfl) pa_nil)))))))), ?_⟩
    rcases hd with hd | hd
    · refine ⟨x, rfl, x, .ty "int", _, _, false, rfl, .ty _, da_ty da, by rw [← hd]; exact kit_int d, false, rfl, ?_⟩
      exact iteF q
    · have hi : isInt d = true := by
        cases d <;> first | rfl | (simp [isBool] at hd)
      refine ⟨x, rfl, x, .ty "int", _, _, true, rfl, .ty _, da_ty da, by rw [← hi]; exact kit_int d, true, rfl, iteT ?_⟩
      refine ⟨x, rfl, x, .ty "bool", _, _, true, rfl, .ty _, da_ty da, by rw [← hd]; exact kit_bool d, true, rfl, ?_⟩
      exact q
end
end CH

/-! is_label, is_integer, is_arrow of any data. -/
namespace K24
open PySem L2 KS GL LB K24m ML
open CH (outs sucs ChC ChartAt cf cf_arrows cf_states ChartOk spInit spArrow arrowB labelB spLabel spLabelN spInt spIntN)
open PySem.Spec hiding Row
open PyProof.Rows hiding cnt
def lblD : PyData → Bool
  | .str z => labelB z
  | _ => false
def intD : PyData → Bool
  | .int _ => true
  | _ => false
def asRow : PyData → Option Row
  | .tuple [.int s, .str l, .int t] => some (s, l, t)
  | _ => none
def arrD (n : Int) (d : PyData) : Bool := match asRow d with
  | some r => arrowB n r.1 r.2.1 r.2.2
  | none => false
/-- its texts are not long: the second part of a tuple -/
def SndB (d : PyData) : Prop := ∀ ds z, d = .tuple ds → ds[1]? = some (.str z) → z.length ≤ 1000
theorem asRow_some {d : PyData} {r : Row} (h : asRow d = some r) : d = rowD r := by
  unfold asRow at h
  split at h
  · cases h
    rfl
  · cases h
theorem asRow_row (r : Row) : asRow (rowD r) = some r := rfl
section
variable {P : Program} {w : World} {K : PySem.W.Frag} {mg : Str → Option Value} {base : Heap}
set_option hygiene false
local macro_rules | `(tactic| k_dat 0 "rd") => `(tactic| first | with_reducible apply rd.val | with_reducible apply rd.own | (apply rd.slot; apply Eq.refl) | (apply rd.slotL; apply Eq.refl))
local macro_rules | `(tactic| k_dat 0 "rdS") => `(tactic| first | with_reducible (apply rdS.l; apply rd.val) | with_reducible (apply rdS.t; apply rd.val) | with_reducible (apply rdS.l; apply rd.own) | (apply rdS.l; apply rd.slotL; apply Eq.refl) | (apply rdS.l; apply rd.slot; apply Eq.refl) | (apply rdS.t; apply rd.slot; apply Eq.refl))
local macro_rules | `(tactic| k_dat 0 "rdD") => `(tactic| first | with_reducible apply rdD.val | with_reducible apply rdD.own | (apply rdD.slot; apply Eq.refl) | (apply rdD.slotP; apply Eq.refl))
local macro_rules | `(tactic| k_dat 0 "sc") => `(tactic| first | apply Sc.int | apply Sc.bl | apply Sc.str | apply Sc.non)
local macro_rules | `(tactic| k_dat 0 "asD") => `(tactic| first | with_reducible apply asD.val | with_reducible apply asD.own | (apply asD.slot; apply Eq.refl))
local macro_rules | `(tactic| k_dat 0 "asX") => `(tactic| first | with_reducible apply asX.pure | with_reducible apply asX.own | (apply asX.slot; apply Eq.refl) | with_reducible apply asX.keep)
local macro_rules | `(tactic| k_dat 0 "nf") => `(tactic| first | (conv => arg 3; dsimp only [wipeM, List.set, List.map]) | skip)
local macro_rules | `(tactic| k_dat 0 "eq") => `(tactic| first | (dsimp only [wipeM, List.set, List.map]; done) | (dsimp only [wipeM, List.set, List.map]; apply Eq.refl) | apply Eq.refl)
local macro_rules | `(tactic| k_dat 0 "st") => `(tactic| first
  | ((with_reducible apply x_seq); k_dat 0 "nf") | ((with_reducible apply x_parT2); (case hi => omega); (case hj => omega)) | ((with_reducible apply x_asg2); (case hi => omega); (case hj => omega)) | ((with_reducible apply x_asg3); (case hi => omega); (case hj => omega); (case hl => omega)) | ((with_reducible apply x_par4); (case hi => omega); (case hj => omega); (case hk => omega); (case hl => omega)) | ((with_reducible apply x_par2); (case hij => omega); (case hi => omega); (case hj => omega)) | with_reducible first | (apply x_asg; case hl => decide) | apply x_drop | apply x_ret | apply x_next | apply x_break | apply x_cont
  | apply x_dput (K := K) | apply x_putN (K := K) | apply x_retN)
local macro_rules | `(tactic| k_dat 0 "ex") => `(tactic| with_reducible first
  | apply ev_int (K := K) | apply ev_str (K := K) | apply ev_bl (K := K) | apply ev_non (K := K)
  | apply ev_tup (K := K) | apply ev_lst (K := K) | apply ev_op | apply ev_un | apply ev_sset_rows (K := K) | apply ev_sset_ints (K := K) | apply ev_cb1 | apply ev_cb2 | apply ev_andV (K := K) | apply ev_orV (K := K) | apply ev_notV (K := K) | apply ev_if
  | apply ev_sl | apply evO_none | apply evO_some (K := K) | apply ev_rev | apply ev_bm1 | apply ev_bm0 | apply ev_dnew (K := K) | apply ev_disp (K := K) | apply ev_dget1 (K := K) | apply ev_dget2 (K := K) | apply ev_dinI (K := K) | apply ev_dninI (K := K) | apply ev_chainI (K := K)
  | apply ev_call | apply ev_call1
  | apply evD_nil | apply evD_cons | apply evA_nil | apply evA_x (K := K) | apply evPs_nil | apply evPs_cons
  | apply ev_dispN (K := K) | apply evPsN_nil | apply evPsN_cons | apply ev_ninN (K := K) | apply ev_ninR (K := K) | apply ev_dcR (K := K)
  | apply evT_val (K := K) | apply evT_B (K := K) | apply evT_and | apply evT_or | apply evT_not | apply evT_yes)
local macro_rules | `(tactic| k_dat 0 "vr") => `(tactic| first
  | ((with_reducible apply ev_var); (case h => apply Eq.refl)) | ((with_reducible apply ev_at); (case h => apply Eq.refl))
  | ((with_reducible apply x_augI); (case hi => decide); (case h0 => apply Eq.refl)))
local macro_rules | `(tactic| k_dat 0 "tg") => `(tactic| first
  | (with_reducible apply tg_name) | ((with_reducible apply tg_move); (case h => apply Eq.refl)) | ((with_reducible apply tg_tup); (case hn => rfl)) | (with_reducible apply tg_row) | (with_reducible apply tgs_nil) | (with_reducible apply tgs_consN))
local macro_rules | `(tactic| k_dat 0 "len") => `(tactic| ((first | apply lt_line | apply le_line); (try simp only [List.length_map, List.length_append, List.length_cons, List.length_nil, List.length_range]); omega))
local macro_rules | `(tactic| k_dat 0 "op") => `(tactic| first
  | ((with_reducible apply op_i0 (K := K)); (case h1 => k_dat 0 "rd"); (case h2 => k_dat 0 "rd"); (case hd => k_dat 0 "sc"))
  | ((with_reducible apply op_eqI (K := K)); (case h1 => k_dat 0 "rd"); (case h2 => k_dat 0 "rd")) | ((with_reducible apply op_neI (K := K)); (case h1 => k_dat 0 "rd"); (case h2 => k_dat 0 "rd"))
  | ((with_reducible apply op_eqS (K := K)); (case h1 => k_dat 0 "rd"); (case h2 => k_dat 0 "rd")) | ((with_reducible apply op_neS (K := K)); (case h1 => k_dat 0 "rd"); (case h2 => k_dat 0 "rd"))
  | ((with_reducible apply op_ixR0 (K := K)); (case h1 => k_dat 0 "rd"); (case h2 => k_dat 0 "rd")) | ((with_reducible apply op_ixR1 (K := K)); (case h1 => k_dat 0 "rd"); (case h2 => k_dat 0 "rd")) | ((with_reducible apply op_ixR2 (K := K)); (case h1 => k_dat 0 "rd"); (case h2 => k_dat 0 "rd"))
  | ((with_reducible apply un_i (K := K)); (case h1 => k_dat 0 "rd"); (case hd => k_dat 0 "sc"))
  | ((with_reducible apply un_len (K := K)); (case h => k_dat 0 "rdS")) | ((with_reducible apply un_list (K := K)); (case h => k_dat 0 "rdS")) | ((with_reducible apply un_tuple (K := K)); (case h => first | (apply rdS.l; k_dat 0 "rd") | (apply rdS.t; k_dat 0 "rd")))
  | ((with_reducible apply un_int (K := K)); (case h => k_dat 0 "rd")) | ((with_reducible apply un_lenD (K := K)); (case h => k_dat 0 "rdD")) | ((with_reducible apply un_listK (K := K)); (case h => k_dat 0 "rdD"))
  | ((with_reducible apply op_append (K := K)); (case hd => k_dat 0 "asD"); (case e => apply Eq.refl); (case hl => k_dat 0 "len"))
  | ((with_reducible apply op_cat_ (K := K)); (case h1 => k_dat 0 "rd"); (case h2 => k_dat 0 "rd"); (case hl => k_dat 0 "len"))
  | ((with_reducible apply op_max2 (K := K)); (case h1 => k_dat 0 "rd"); (case h2 => k_dat 0 "rd")) | ((with_reducible apply op_min2 (K := K)); (case h1 => k_dat 0 "rd"); (case h2 => k_dat 0 "rd"))
  | ((with_reducible apply sl_list_ (K := K)); (case h1 => k_dat 0 "rd")) | ((with_reducible apply sl_tup_ (K := K)); (case h1 => k_dat 0 "rd")))
local macro_rules | `(tactic| k_dat 0 "sp") => `(tactic| first
  | ((with_reducible (apply Exists.intro; apply And.intro)); (case left => with_reducible apply Eq.refl))
  | ((with_reducible (apply Exists.intro; apply And.intro)); (case left => first | k_dat 0 "rd" | k_dat 0 "rdD"))
  | ((with_reducible apply And.intro); (case left => (with_reducible apply Exists.intro); k_dat 0 "rdD"))
  | ((with_reducible (apply Exists.intro; apply Exists.intro; apply And.intro)); (case left => first | k_dat 0 "asD" | k_dat 0 "asX"))
  | ((with_reducible apply And.intro); (case left => apply len_le; apply Eq.refl))
  | ((with_reducible (apply Exists.intro (Sum.inl _); apply And.intro)); (case left => apply Eq.refl)) | ((with_reducible (apply Exists.intro (Sum.inr _); apply And.intro)); (case left => apply Eq.refl)))
local macro_rules | `(tactic| k_dat 0 "wk") => `(tactic| with_reducible first | apply x_forD (K := K) | apply x_lc (K := K) | apply wkD_list | apply wkD_tup | apply wkD_seq | apply wkD_rng1 | apply wkD_rng2 | apply wkD_str)
local macro_rules | `(tactic| k_dat 0 "ml1") => `(tactic| first | k_dat 0 "st" | k_dat 0 "ex" | k_dat 0 "wk" | k_dat 0 "vr" | k_dat 0 "tg" | k_dat 0 "op" | k_dat 0 "sp")
local macro_rules | `(tactic| k_dat 0 "ml") => `(tactic| repeat k_dat 0 "ml1")
def labelA (K : PySem.W.Frag) : MSp := fun Rs q => ∃ d, Rs = [dat K d] ∧ (∀ z, d = .str z → z.length ≤ 1000) ∧ q (dat K (.bool (lblD d))) []
def intA (K : PySem.W.Frag) : MSp := fun Rs q => ∃ d, Rs = [dat K d] ∧ q (dat K (.bool (intD d))) []
abbrev S_is_label (K : PySem.W.Frag) : Sp := spOf 0 (labelA K)
abbrev S_is_integer (K : PySem.W.Frag) : Sp := spOf 0 (intA K)
theorem sat_one0 {P : Pd} {vs : List V} {H0 H : Hp} {G : FP} (S : Sat [some (pu P)] (vs.map some) H0 H G) : ∃ v, vs = [v] ∧ P.p H0 v := by
  have hl := S.len
  obtain ⟨v, f, e1, r, d⟩ := S.get (i := 0) (R := pu P) rfl
  match vs, hl with
  | [v'], _ =>
    obtain rfl : v' = v := Option.some.inj (Option.some.inj e1)
    exact ⟨v', rfl, r.1⟩
theorem fin_scA {ρ : MS} {σ : L2.St} {H0 H H' : Hp} {G : FP} (S : Sat ρ σ H0 H G) (s : Same H H') : Ext G H0 H H0 H' ∧ Sat [] [] H0 H' fun a => G a ∨ False := by
  have hG : ∀ a, G a → H' a = H a := fun a ha => by
    cases e : H a with
    | none => exact absurd e (S.fr a ha).1
    | some u => exact s a u e
  refine ⟨⟨Same.refl _, hG⟩, sat_nil (S.same.trans s) fun a ha => ?_⟩
  have ha := ha.resolve_right id
  exact ⟨by rw [hG a ha]; exact (S.fr a ha).1, (S.fr a ha).2⟩
theorem labelA_conv (vs : List V) (H : Hp) (Q : VK) (E : XK) (h : S_is_label K vs H Q E) : spLabel vs H Q E ∨ spLabelN K vs H Q E := by
  obtain ⟨Rs, H0, G, q, S, ⟨d, rfl, hz, hq⟩, fin⟩ := h
  obtain ⟨v, rfl, p1⟩ := sat_one0 S
  have go : ∀ H' b, lblD d = b → Same H H' → Q (.bl b) H' := fun H' b e s => by
    obtain ⟨x1, x2⟩ := fin_scA S s
    rw [e] at hq
    exact fin _ _ hq _ (fun _ => False) H0 H' x1 ⟨.bl _, fun _ h => h⟩ (fun _ h => h.elim) x2
  by_cases hs : isStr d = true
  · cases p1 with
    | str z => exact .inl ⟨z, rfl, hz z rfl, fun H' s => go H' _ rfl s⟩
    | _ => simp [isStr] at hs
  · have hs' : isStr d = false := by simpa using hs
    refine .inr ⟨v, d, rfl, Da.mono S.same _ _ p1, hs', go H false ?_ (Same.refl _)⟩
    cases d <;> first | rfl | (simp [isStr] at hs')
theorem intA_conv (vs : List V) (H : Hp) (Q : VK) (E : XK) (h : S_is_integer K vs H Q E) : spInt vs H Q E ∨ spIntN K vs H Q E := by
  obtain ⟨Rs, H0, G, q, S, ⟨d, rfl, hq⟩, fin⟩ := h
  obtain ⟨v, rfl, p1⟩ := sat_one0 S
  have go : ∀ b, intD d = b → Q (.bl b) H := fun b e => by
    obtain ⟨x1, x2⟩ := fin_scA S (Same.refl _)
    rw [e] at hq
    exact fin _ _ hq _ (fun _ => False) H0 H x1 ⟨.bl _, fun _ h => h⟩ (fun _ h => h.elim) x2
  by_cases hs : intD d = true
  · cases p1 with
    | int z => exact .inl ⟨z, rfl, go true rfl⟩
    | _ => simp [intD] at hs
  · have hs' : intD d = false := by simpa using hs
    refine .inr ⟨v, d, rfl, Da.mono S.same _ _ p1, ?_, go false hs'⟩
    cases d <;> simp [isInt, isBool, intD] at hs' ⊢
def arrowA (K : PySem.W.Frag) : MSp := fun Rs q => ∃ (n : Nat) (d : PyData), Rs = [dat K (.int n), dat K d] ∧ SndB d ∧ q (dat K (.bool (arrD n d))) []
abbrev S_is_arrow (K : PySem.W.Frag) : Sp := spOf 0 (arrowA K)
theorem scArrowA : FnScope ["states", "thing", "source", "label", "target"] ["states", "thing"] (defScope CH.sArrow) := ⟨rfl, rfl, rfl, by decide +kernel, rfl, by decide +kernel, by decide +kernel⟩
theorem ok_arrowA {f : Addr} {fd : FuncData} (G : Fun K "is_arrow" "is_arrow" CH.sArrow f fd) (T : CH.Blt2 mg) (C : CH.Cst K mg) (his_label : HasM P w K mg base "is_label" 1 ["thing"] (S_is_label K)) (his_integer : HasM P w K mg base "is_integer" 1 ["thing"] (S_is_integer K)) :
    FnG P w K mg base CX0 2 f fd ["states", "thing"] (S_is_arrow K) := by
  refine fn_ml G scArrowA (fun Rs q ⟨_, _, h, _⟩ => by rw [h]; rfl) (by decide) fun cdv A outer s H E hrG => ?_
  have hr := hrG.room
  have hu := hu_of hr
  have hu64 := hr.units
  obtain ⟨uPa, gPa, rPa⟩ := C.c_PARTS
  obtain ⟨uEn, gEn, rEn⟩ := C.c_END
  refine ⟨_, (pss_cons (ps_if (PW.pt (pw_or (pt_not (pt_val (pe_callB call_isi (by rfl) T.b_isinstance (by decide +kernel) (pa_cons (pv 1) (pa_cons (pe_bltn (u := .type "tuple") (v := .ty "tuple") rfl T.b_tuple (by decide +kernel) rfl) pa_nil))))) (pw_or (pt_cmpR op_ne (pe_callB call_lenQ (by rfl) T.b_len PySem.boot_len (pa_cons (pv 1) pa_nil)) (pe_glob rfl gPa rPa) (nomark _)) (pw_or1 (pt_not (pt_val (pe_hg his_label (hrG.mono (by decide)) rfl (pa_cons (pe_ix ix_tup (pv 1) pe_int (fun _ _ => rfl)) pa_nil))))))))
    (pss_one (ps_ret pe_bl))
    pss_nil)
  (pss_cons (ps_asg (pv 1) (pg_tup (n := 3) rfl (pgs_cons (pg_name (i := 2) scArrowA.nd rfl (Or.inl rfl)) (pgs_cons (pg_name (i := 3) scArrowA.nd rfl (Or.inl rfl)) (pgs_cons (pg_name (i := 4) scArrowA.nd rfl (Or.inl rfl)) pgs_nil)))))
  (pss_one (ps_ret (pe_and (pe_hg his_integer (hrG.mono (by decide)) rfl (pa_cons (pv 2) pa_nil)) (pe_and (pe_hg his_integer (hrG.mono (by decide)) rfl (pa_cons (pv 4) pa_nil)) (pe_and (pe_chain op_le op_lt pe_int (pv 2) (pv 0)) (pe_one (pe_chain op_le op_lt (pe_glob rfl gEn rEn) (pv 4) (pv 0)))))))))), ?_⟩
  rintro Rs q ⟨n, d, rfl, hd, hq⟩
  rw [outF_eq]
  try dsimp only [cxOf, Cx.nox, Cx.wish]
  show ML.ex 0 _ [some (dat K (.int n)), some (dat K d), none, none, none] _
  refine x_seq (x_if (evT_or (evT_not (evT_B (K := K) (ev_isiA kit_tuple (ev_var rfl ⟨d, rd.val, ?_⟩))))))
  have no : arrD n d = false → ∀ nx', ML.ex 0 (tRet (tC (.bl false))) [some (dat K (.int n)), some (dat K d), none, none, none] ⟨nx', fun r ρ' => ∃ R Rs', retR 0 r ρ' R Rs' ∧ q R Rs', fun _ => False, fun _ => False⟩ := fun e nx' => by
    k_dat 0 "ml"
    rw [e] at hq
    exact ⟨_, [], ret_val rfl, hq⟩
  refine ⟨isTup d, rfl, fun h => ?_, fun h => ?_⟩
  · refine ⟨fun _ => no ?_ _, fun h => Bool.noConfusion h⟩
    cases d <;> first | rfl | (simp [isTup] at h)
  obtain ⟨ds, rfl⟩ : ∃ ds, d = .tuple ds := by
    cases d <;> first | exact ⟨_, rfl⟩ | (simp [isTup] at h)
  k_dat 0 "ml"
  refine ⟨fun h => ⟨fun _ => no ?_ _, fun h => Bool.noConfusion h⟩, fun h => ?_⟩
  · have hl : ds.length ≠ 3 := fun z => by simp [z] at h
    unfold arrD asRow
    split
    · rename_i e
      split at e
      · rename_i z
        cases z
        simp at hl
      · cases e
    · rfl
  have hl : ds.length = 3 := by
    have : ((ds.length : Nat) : Int) = 3 := by simpa using h
    omega
  obtain ⟨a, b, c, rfl⟩ : ∃ a b c, ds = [a, b, c] := by
    match ds, hl with
    | [a, b, c], _ => exact ⟨a, b, c, rfl⟩
  k_dat 0 "ml"
  refine op_ixT rd.val rd.val (d := b) rfl ?_
  k_dat 0 "ml"
  refine c_zero [_] ⟨b, rfl, fun z e => hd _ z rfl (by rw [e]; rfl), ?_⟩
  refine ⟨lblD b, rfl, fun h => ?_, fun h => ?_⟩
  · refine no ?_ _
    have hb : lblD b = false := by simpa using h
    unfold arrD asRow
    split
    · rename_i r e
      split at e
      · rename_i z
        cases z
        cases e
        have hb : labelB _ = false := hb
        unfold arrowB
        rw [hb]
        rfl
      · cases e
    · rfl
  have hb : lblD b = true := by simpa using h
  obtain ⟨z, rfl⟩ : ∃ z, b = .str z := by
    cases b <;> first | exact ⟨_, rfl⟩ | (simp [lblD] at hb)
  have hb : labelB z = true := hb
  k_dat 0 "ml"
  have fin : ∀ {ρ : MS} (b : Bool), arrD n (.tuple [a, .str z, c]) = b → ∃ R Rs', retR 0 (.val (dat K (.bool b))) ρ R Rs' ∧ q R Rs' := fun b e => by
    rw [e] at hq
    exact ⟨_, [], ret_val rfl, hq⟩
  refine c_zero [_] ⟨a, rfl, ?_⟩
  k_dat 0 "ml"
  refine ⟨fun ha => ?_, fun ha => fin _ ?_⟩
  rotate_left
  · cases a <;> first | rfl | (simp [intD] at ha)
  obtain ⟨s, rfl⟩ : ∃ s, a = .int s := by
    cases a <;> first | exact ⟨_, rfl⟩ | (simp [intD] at ha)
  k_dat 0 "ml"
  refine c_zero [_] ⟨c, rfl, ?_⟩
  k_dat 0 "ml"
  refine ⟨fun hc => ?_, fun hc => fin _ ?_⟩
  rotate_left
  · cases c <;> first | rfl | (simp [intD] at hc)
  obtain ⟨t, rfl⟩ : ∃ t, c = .int t := by
    cases c <;> first | exact ⟨_, rfl⟩ | (simp [intD] at hc)
  have eA : arrD n (.tuple [.int s, .str z, .int t]) = ((decide (0 ≤ s) && decide (s < n)) && (decide (-1 ≤ t) && decide (t < n))) := by
    show arrowB n s z t = _
    unfold arrowB
    rw [hb, Bool.true_and]
  k_dat 0 "ml"
  refine ⟨fun h1 => ?_, fun h1 => ⟨false, rfl, fun h => Bool.noConfusion h, fun _ => fin _ (by rw [eA, h1]; rfl)⟩⟩
  k_dat 0 "ml"
  refine ⟨fun h2 => ?_, fun h2 => fin _ (by rw [eA, h2, Bool.and_false]; rfl)⟩
  k_dat 0 "ml"
  refine ⟨fun h3 => ?_, fun h3 => ?_⟩
  · k_dat 0 "ml"
    exact fin _ (by rw [eA, h1, h2, h3]; rfl)
  · exact fin _ (by rw [eA, h1, h2, h3]; rfl)
end
end K24

/-! What is left behind removals, one by one. -/
namespace K24
open PySem L2 KS GL LB K24m ML
open CH (outs sucs)
open PySem.Spec hiding Row
open PyProof.Rows hiding cnt
theorem Rem.fold {R T gs : List Row} (h : Rem R gs T) : gs.foldl aft R = T := by
  induction h with
  | nil => rfl
  | cons _ _ _ ih => exact ih
theorem fold_sub : ∀ (gs R : List Row), (gs.foldl aft R).Sublist R
  | [], R => List.Sublist.refl _
  | g :: gs, R => (fold_sub gs (aft R g)).trans aft_sub
end K24

/-! Chart.__contains__, removal_holds of any data. -/
namespace K24
open PySem L2 KS GL LB K24m ML
open CH (outs sucs ChC ChartAt cf cf_arrows cf_states ChartOk spInit arrowB labelB)
open PySem.Spec hiding Row
open PyProof.Rows hiding cnt
theorem lbl_of {r : Row} (h : labelB r.2.1 = true) : Lbl r := by
  refine ⟨CH.lbl_len h, ?_⟩
  unfold labelB at h
  simp only [Bool.and_eq_true, List.all_eq_true, decide_eq_true_eq] at h
  have hl : (CH.lets).cps.toList = [97, 98, 99, 100, 101, 102, 103, 104, 105, 106, 107, 108, 109, 110, 111, 112, 113, 114, 115, 116, 117, 118, 119, 120, 121, 122] := by decide +kernel
  unfold PyData.strOk
  rw [Array.all_eq_true_iff_forall_mem]
  intro c hc
  have := h.2 c (Array.mem_toList_iff.mpr hc)
  rw [hl] at this
  simp only [List.mem_cons, List.not_mem_nil, or_false] at this
  exact decide_eq_true (by omega)
theorem arrow_label {n s t : Int} {l : Str} (h : arrowB n s l t = true) : labelB l = true := by
  unfold arrowB at h
  simp only [Bool.and_eq_true] at h
  exact h.1.1
/-- what a list of rows loses by values one behind the other -/
noncomputable def remL : List Row → List PyData → Option (List Row)
  | L, [] => some L
  | L, d :: ds => match asRow d with
    | some r => if r ∈ L ∧ loopB L r = true then remL (aft L r) ds else none
    | none => none
noncomputable def remD (R : List Row) : PyData → Option (List Row)
  | .tuple ds => remL R ds
  | _ => none
theorem remL_mem : ∀ {ds : List PyData} {L T : List Row}, remL L ds = some T → ∀ d ∈ ds, ∃ r, asRow d = some r ∧ r ∈ L
  | [], _, _, _, _, h => nomatch h
  | x :: ds, L, T, e, d, hd => by
    unfold remL at e
    split at e
    · rename_i r er
      split at e
      · rename_i hc
        rcases List.mem_cons.mp hd with rfl | hd
        · exact ⟨r, er, hc.1⟩
        · obtain ⟨z, h1, h2⟩ := remL_mem e d hd
          exact ⟨z, h1, aft_mem h2⟩
      · cases e
    · cases e
theorem remL_row {L : List Row} {r : Row} {ds : List PyData} : remL L (rowD r :: ds) = if r ∈ L ∧ loopB L r = true then remL (aft L r) ds else none := by
  rw [remL]
  rfl
theorem rows_of : ∀ {ds : List PyData}, (∀ d ∈ ds, ∃ r, asRow d = some r) → ∃ gs : List Row, ds = gs.map rowD
  | [], _ => ⟨[], rfl⟩
  | d :: ds, h => by
    obtain ⟨r, e⟩ := h d List.mem_cons_self
    obtain ⟨gs, e2⟩ := rows_of fun z hz => h z (List.mem_cons_of_mem _ hz)
    exact ⟨r :: gs, by rw [List.map_cons, ← e2, asRow_some e]⟩
/-- is it an arrow of the chart -/
def inD (n : Int) (R : List Row) (d : PyData) : Bool := match asRow d with
  | some r => arrowB n r.1 r.2.1 r.2.2 && decide (r ∈ R)
  | none => false
section
variable {P : Program} {w : World} {K : PySem.W.Frag} {mg : Str → Option Value} {base : Heap}
set_option hygiene false
local macro_rules | `(tactic| k_dat 0 "rd") => `(tactic| first | with_reducible apply rd.val | with_reducible apply rd.own | (apply rd.slot; apply Eq.refl) | (apply rd.slotL; apply Eq.refl))
local macro_rules | `(tactic| k_dat 0 "rdS") => `(tactic| first | with_reducible (apply rdS.l; apply rd.val) | with_reducible (apply rdS.t; apply rd.val) | with_reducible (apply rdS.l; apply rd.own) | (apply rdS.l; apply rd.slotL; apply Eq.refl) | (apply rdS.l; apply rd.slot; apply Eq.refl) | (apply rdS.t; apply rd.slot; apply Eq.refl))
local macro_rules | `(tactic| k_dat 0 "rdD") => `(tactic| first | with_reducible apply rdD.val | with_reducible apply rdD.own | (apply rdD.slot; apply Eq.refl) | (apply rdD.slotP; apply Eq.refl))
local macro_rules | `(tactic| k_dat 0 "sc") => `(tactic| first | apply Sc.int | apply Sc.bl | apply Sc.str | apply Sc.non)
local macro_rules | `(tactic| k_dat 0 "asD") => `(tactic| first | with_reducible apply asD.val | with_reducible apply asD.own | (apply asD.slot; apply Eq.refl))
local macro_rules | `(tactic| k_dat 0 "asX") => `(tactic| first | with_reducible apply asX.pure | with_reducible apply asX.own | (apply asX.slot; apply Eq.refl) | with_reducible apply asX.keep)
local macro_rules | `(tactic| k_dat 0 "nf") => `(tactic| first | (conv => arg 3; dsimp only [wipeM, List.set, List.map]) | skip)
local macro_rules | `(tactic| k_dat 0 "eq") => `(tactic| first | (dsimp only [wipeM, List.set, List.map]; done) | (dsimp only [wipeM, List.set, List.map]; apply Eq.refl) | apply Eq.refl)
local macro_rules | `(tactic| k_dat 0 "st") => `(tactic| first
  | ((with_reducible apply x_seq); k_dat 0 "nf") | ((with_reducible apply x_parT2); (case hi => omega); (case hj => omega)) | ((with_reducible apply x_asg2); (case hi => omega); (case hj => omega)) | ((with_reducible apply x_asg3); (case hi => omega); (case hj => omega); (case hl => omega)) | ((with_reducible apply x_par4); (case hi => omega); (case hj => omega); (case hk => omega); (case hl => omega)) | ((with_reducible apply x_par2); (case hij => omega); (case hi => omega); (case hj => omega)) | with_reducible first | (apply x_asg; case hl => decide) | apply x_drop | apply x_ret | apply x_next | apply x_break | apply x_cont
  | apply x_dput (K := K) | apply x_putN (K := K) | apply x_retN)
local macro_rules | `(tactic| k_dat 0 "ex") => `(tactic| with_reducible first
  | apply ev_int (K := K) | apply ev_str (K := K) | apply ev_bl (K := K) | apply ev_non (K := K)
  | apply ev_tup (K := K) | apply ev_lst (K := K) | apply ev_op | apply ev_un | apply ev_sset_rows (K := K) | apply ev_sset_ints (K := K) | apply ev_cb1 | apply ev_cb2 | apply ev_andV (K := K) | apply ev_orV (K := K) | apply ev_notV (K := K) | apply ev_if
  | apply ev_sl | apply evO_none | apply evO_some (K := K) | apply ev_rev | apply ev_bm1 | apply ev_bm0 | apply ev_dnew (K := K) | apply ev_disp (K := K) | apply ev_dget1 (K := K) | apply ev_dget2 (K := K) | apply ev_dinI (K := K) | apply ev_dninI (K := K) | apply ev_chainI (K := K)
  | apply ev_call | apply ev_call1
  | apply evD_nil | apply evD_cons | apply evA_nil | apply evA_x (K := K) | apply evPs_nil | apply evPs_cons
  | apply ev_dispN (K := K) | apply evPsN_nil | apply evPsN_cons | apply ev_ninN (K := K) | apply ev_ninR (K := K) | apply ev_dcR (K := K)
  | apply evT_val (K := K) | apply evT_B (K := K) | apply evT_and | apply evT_or | apply evT_not | apply evT_yes)
local macro_rules | `(tactic| k_dat 0 "vr") => `(tactic| first
  | ((with_reducible apply ev_var); (case h => apply Eq.refl)) | ((with_reducible apply ev_at); (case h => apply Eq.refl))
  | ((with_reducible apply x_augI); (case hi => decide); (case h0 => apply Eq.refl)))
local macro_rules | `(tactic| k_dat 0 "tg") => `(tactic| first
  | (with_reducible apply tg_name) | ((with_reducible apply tg_move); (case h => apply Eq.refl)) | ((with_reducible apply tg_tup); (case hn => rfl)) | (with_reducible apply tg_row) | (with_reducible apply tgs_nil) | (with_reducible apply tgs_consN))
local macro_rules | `(tactic| k_dat 0 "len") => `(tactic| ((first | apply lt_line | apply le_line); (try simp only [List.length_map, List.length_append, List.length_cons, List.length_nil, List.length_range]); omega))
local macro_rules | `(tactic| k_dat 0 "op") => `(tactic| first
  | ((with_reducible apply op_i0 (K := K)); (case h1 => k_dat 0 "rd"); (case h2 => k_dat 0 "rd"); (case hd => k_dat 0 "sc"))
  | ((with_reducible apply op_eqI (K := K)); (case h1 => k_dat 0 "rd"); (case h2 => k_dat 0 "rd")) | ((with_reducible apply op_neI (K := K)); (case h1 => k_dat 0 "rd"); (case h2 => k_dat 0 "rd"))
  | ((with_reducible apply op_eqS (K := K)); (case h1 => k_dat 0 "rd"); (case h2 => k_dat 0 "rd")) | ((with_reducible apply op_neS (K := K)); (case h1 => k_dat 0 "rd"); (case h2 => k_dat 0 "rd"))
  | ((with_reducible apply op_ixR0 (K := K)); (case h1 => k_dat 0 "rd"); (case h2 => k_dat 0 "rd")) | ((with_reducible apply op_ixR1 (K := K)); (case h1 => k_dat 0 "rd"); (case h2 => k_dat 0 "rd")) | ((with_reducible apply op_ixR2 (K := K)); (case h1 => k_dat 0 "rd"); (case h2 => k_dat 0 "rd"))
  | ((with_reducible apply un_i (K := K)); (case h1 => k_dat 0 "rd"); (case hd => k_dat 0 "sc"))
  | ((with_reducible apply un_len (K := K)); (case h => k_dat 0 "rdS")) | ((with_reducible apply un_list (K := K)); (case h => k_dat 0 "rdS")) | ((with_reducible apply un_tuple (K := K)); (case h => first | (apply rdS.l; k_dat 0 "rd") | (apply rdS.t; k_dat 0 "rd")))
  | ((with_reducible apply un_int (K := K)); (case h => k_dat 0 "rd")) | ((with_reducible apply un_lenD (K := K)); (case h => k_dat 0 "rdD")) | ((with_reducible apply un_listK (K := K)); (case h => k_dat 0 "rdD"))
  | ((with_reducible apply op_append (K := K)); (case hd => k_dat 0 "asD"); (case e => apply Eq.refl); (case hl => k_dat 0 "len"))
  | ((with_reducible apply op_cat_ (K := K)); (case h1 => k_dat 0 "rd"); (case h2 => k_dat 0 "rd"); (case hl => k_dat 0 "len"))
  | ((with_reducible apply op_max2 (K := K)); (case h1 => k_dat 0 "rd"); (case h2 => k_dat 0 "rd")) | ((with_reducible apply op_min2 (K := K)); (case h1 => k_dat 0 "rd"); (case h2 => k_dat 0 "rd"))
  | ((with_reducible apply sl_list_ (K := K)); (case h1 => k_dat 0 "rd")) | ((with_reducible apply sl_tup_ (K := K)); (case h1 => k_dat 0 "rd")))
local macro_rules | `(tactic| k_dat 0 "sp") => `(tactic| first
  | ((with_reducible (apply Exists.intro; apply And.intro)); (case left => with_reducible apply Eq.refl))
  | ((with_reducible (apply Exists.intro; apply And.intro)); (case left => first | k_dat 0 "rd" | k_dat 0 "rdD"))
  | ((with_reducible apply And.intro); (case left => (with_reducible apply Exists.intro); k_dat 0 "rdD"))
  | ((with_reducible (apply Exists.intro; apply Exists.intro; apply And.intro)); (case left => first | k_dat 0 "asD" | k_dat 0 "asX"))
  | ((with_reducible apply And.intro); (case left => apply len_le; apply Eq.refl))
  | ((with_reducible (apply Exists.intro (Sum.inl _); apply And.intro)); (case left => apply Eq.refl)) | ((with_reducible (apply Exists.intro (Sum.inr _); apply And.intro)); (case left => apply Eq.refl)))
local macro_rules | `(tactic| k_dat 0 "wk") => `(tactic| with_reducible first | apply x_forD (K := K) | apply x_lc (K := K) | apply wkD_list | apply wkD_tup | apply wkD_seq | apply wkD_rng1 | apply wkD_rng2 | apply wkD_str)
local macro_rules | `(tactic| k_dat 0 "ml1") => `(tactic| first | k_dat 0 "st" | k_dat 0 "ex" | k_dat 0 "wk" | k_dat 0 "vr" | k_dat 0 "tg" | k_dat 0 "op" | k_dat 0 "sp")
local macro_rules | `(tactic| k_dat 0 "ml") => `(tactic| repeat k_dat 0 "ml1")
def containsM (K : PySem.W.Frag) (C : Addr) : MSp := fun Rs q => ∃ (n : Nat) (R : List Row) (d : PyData), Rs = [pu (chartP K C n R), dat K d] ∧ SndB d ∧ (∀ x ∈ R, Lbl x) ∧ q (dat K (.bool (inD n R d))) []
theorem scContains : FnScope ["self", "thing"] ["self", "thing"] (defScope CH.sContains) := ⟨rfl, rfl, rfl, by decide +kernel, rfl, by decide +kernel, by decide +kernel⟩
theorem ok_contains {f C : Addr} {fd : FuncData} (G : Fun K "__contains__" "Chart.__contains__" CH.sContains f fd) (CC : ChC K mg C) (his_arrow : HasM P w K mg base "is_arrow" 2 ["states", "thing"] (S_is_arrow K)) : FnG P w K mg base CX0 3 f fd ["self", "thing"] (spOf 0 (containsM K C)) := by
  refine fn_ml G scContains (fun Rs q ⟨_, _, _, h, _⟩ => by rw [h]; rfl) (by decide) fun cdv A outer s H E hrG => ?_
  have hr := hrG.room
  have hu := hu_of hr
  have hu64 := hr.units
  refine ⟨_, (pss_one (ps_ret (pe_and (pe_hg his_arrow (hrG.mono (by decide)) rfl (pa_cons (pe_fld (pv 0) rfl) (pa_cons (pv 1) pa_nil))) (pe_one (pe_cmpR (op_inRow hu64) (pv 1) (pe_fld (pv 0) rfl) (by rfl)))))), ?_⟩
  rintro Rs q ⟨n, R, d, rfl, hd, lR, hq⟩
  rw [outF_eq]
  try dsimp only [cxOf, Cx.nox, Cx.wish]
  show ML.ex 0 _ [some (pu (chartP K C n R)), some (dat K d)] _
  k_dat 0 "ml"
  refine ev_states CC rfl ?_
  k_dat 0 "ml"
  refine c_zero [_, _] ⟨n, d, rfl, hd, ?_⟩
  k_dat 0 "ml"
  refine ⟨fun h => ?_, fun h => ?_⟩
  · unfold arrD at h
    unfold inD at hq
    split at h
    · rename_i r e
      rw [e] at hq
      dsimp only at hq
      obtain rfl := asRow_some e
      k_dat 0 "ml"
      refine ev_arrows CC rfl ?_
      k_dat 0 "ml"
      refine op_inRows R rd.val rd.val (.inr rfl) (lbl_of (arrow_label h)) lR ?_
      rw [h, Bool.true_and] at hq
      exact ⟨_, [], ret_val rfl, hq⟩
    · cases h
  · have e : inD n R d = false := by
      unfold arrD at h
      unfold inD
      split
      · rename_i r e
        rw [e] at h
        dsimp only at h
        rw [h, Bool.false_and]
      · rfl
    rw [e] at hq
    exact ⟨_, [], ret_val rfl, hq⟩
def holdsA (K : PySem.W.Frag) (C : Addr) : MSp := fun Rs q => ∃ (n : Nat) (R : List Row) (d : PyData), Rs = [pu (chartP K C n R), dat K d] ∧ R.length ≤ 76 ∧ (∀ x ∈ R, Lbl x ∧ arrowB n x.1 x.2.1 x.2.2 = true) ∧ (∀ ds, d = .tuple ds → ds.length ≤ 100000 ∧ ∀ e ∈ ds, SndB e) ∧ q (dat K (.bool (remD R d).isSome)) []
theorem scHolds : FnScope ["chart", "thing", "arrow", "left"] ["chart", "thing"] (defScope sHolds) := ⟨rfl, rfl, rfl, by decide +kernel, rfl, by decide +kernel, by decide +kernel⟩
theorem ok_holdsA {f C fc : Addr} {fd fdc : FuncData} (G : Fun K "removal_holds" "removal_holds" sHolds f fd) (T : CH.Blt2 mg) (CC : ChC K mg C) (CX1 : PySem.W.findIn K (.ref C) "__contains__" = some (some (.ref fc))) (CX2 : PySem.W.isFn K (.ref fc) = true)
    (CF : FnG P w K mg base CX0 3 fc fdc ["self", "thing"] (spOf 0 (containsM K C))) (CXB : Binds K fdc ["self", "thing"] []) (hnexts_of : HasM P w K mg base "nexts_of" 1 ["arrows"] (S_nexts_of K)) (his_loop_arrow : HasM P w K mg base "is_loop_arrow" 3 ["arrows", "nexts", "arrow"] (S_is_loop_arrow K))
    (hwithout_arrow : HasM P w K mg base "without_arrow" 3 ["arrows", "gone"] (S_without_arrow K)) : FnG P w K mg base CX0 5 f fd ["chart", "thing"] (spOf 0 (holdsA K C)) := by
  refine fn_ml G scHolds (fun Rs q ⟨_, _, _, h, _⟩ => by rw [h]; rfl) (by decide) fun cdv A outer s H E hrG => ?_
  have hr := hrG.room
  have hu := hu_of hr
  have hu64 := hr.units
  refine ⟨_, (pss_cons (ps_if (PW.pt (pw_or (pt_not (pt_val (pe_callB call_isi (by rfl) T.b_isinstance (by decide +kernel) (pa_cons (pv 1) (pa_cons (pe_bltn (u := .type "tuple") (v := .ty "tuple") rfl T.b_tuple (by decide +kernel) rfl) pa_nil))))) (pw_or1 (pt_not (pt_val (pe_callB (cr_all rfl) (by rfl) T.b_all (by decide +kernel) (pa_cons (pe_lc (own := [("arrow", 2)]) (g := gName 2) (tt := tYes) (te := (tInOwn C (spOf 0 (containsM K C)) E0 (tVar 2) (tVar 0))) rfl scHolds.nd (pi_tup (pv 1)) (blkOk_by (own := [("arrow", 2)]) (N := ["chart", "thing", "arrow", "left"]) (sc := defScope sHolds) (by decide +kernel)) (fun _ _ _ _ _ => (pg_name (i := 2) scHolds.nd rfl (by first | exact Or.inl rfl | exact Or.inr rfl))) (fun _ _ _ _ _ => pts_nil) (fun _ _ _ _ _ => (pe_cmp (pc_inOwn CX1 CX2 CF (hrG.mono (by decide)) CXB pass0 (pv 2) (pv 0)) rfl))) pa_nil)))))))
    (pss_one (ps_ret pe_bl))
    pss_nil)
  (pss_cons (ps_set (i := 3) scHolds.nd rfl (Or.inl rfl) (pe_callTy call_listQ (by rfl) T.b_list (by decide +kernel) (pa_cons (pe_fld (pv 0) rfl) pa_nil)))
  (pss_cons (ps_for PassesOwn.never rfl (pi_tup (pv 1)) (pg_name (i := 2) scHolds.nd rfl (Or.inl rfl))
    (pss_cons (ps_if (PW.pt (pw_or (pt_cmpR (op_ninRow hu64) (pv 2) (pv 3) (by rfl)) (pw_or1 (pt_not (pt_val (pe_hg his_loop_arrow (hrG.mono (by decide)) rfl (pa_cons (pv 3) (pa_cons (pe_hg hnexts_of (hrG.mono (by decide)) rfl (pa_cons (pv 3) pa_nil)) (pa_cons (pv 2) pa_nil)))))))))
    (pss_one (ps_ret pe_bl))
    pss_nil)
  (pss_one (ps_set (i := 3) scHolds.nd rfl (Or.inl rfl) (pe_hg hwithout_arrow (hrG.mono (by decide)) rfl (pa_cons (pv 3) (pa_cons (pv 2) pa_nil)))))))
  (pss_one (ps_ret pe_bl))))), ?_⟩
  rintro Rs q ⟨n, R, d, rfl, hl, hR, hd, hq⟩
  rw [outF_eq]
  try dsimp only [cxOf, Cx.nox, Cx.wish]
  show ML.ex 0 _ [some (pu (chartP K C n R)), some (dat K d), none, none] _
  k_dat 0 "ml"
  refine x_if (evT_or (evT_not (evT_B (K := K) (ev_isiA kit_tuple (ev_var rfl ⟨d, rd.val, ?_⟩)))))
  refine ⟨isTup d, rfl, fun h => ⟨fun _ => ?_, fun h => Bool.noConfusion h⟩, fun h => ?_⟩
  · k_dat 0 "ml"
    have e : remD R d = none := by cases d <;> first | rfl | (simp [isTup] at h)
    rw [e] at hq
    exact ⟨_, [], ret_val rfl, hq⟩
  obtain ⟨ds, rfl⟩ : ∃ ds, d = .tuple ds := by
    cases d <;> first | exact ⟨_, rfl⟩ | (simp [isTup] at h)
  obtain ⟨hdl, hds⟩ := hd ds rfl
  have hq : q (dat K (.bool (remL R ds).isSome)) [] := hq
  k_dat 0 "ml"
  refine lc_fm ds id (by rw [List.map_id]) (by omega) (fun _ => true) (fun g => .bool (inD n R g)) (fun g hg => ⟨[2], by decide, ?_⟩) ?_
  · k_dat 0 "ml"
    refine ⟨fun _ => ?_, fun h => Bool.noConfusion h⟩
    refine ev_inOwn (K := K) ?_
    k_dat 0 "ml"
    refine ⟨n, R, rfl, ?_⟩
    refine c_zero [_, _] ⟨n, R, g, rfl, hds g hg, fun x hx => (hR x hx).1, ?_⟩
    refine ⟨_, rfl, ?_⟩
    k_dat 0 "ml"
    exact ⟨rfl, rfl, by k_dat 0 "eq"⟩
  have eb : (ds.filter fun _ => true).map (fun g => PyData.bool (inD n R g)) = (ds.map (inD n R)).map PyData.bool := by
    rw [List.filter_eq_self.mpr fun _ _ => rfl, List.map_map]
    rfl
  rw [eb]
  k_dat 0 "ml"
  refine un_all rd.own ?_
  refine ⟨_, rfl, fun hall => ?_, fun hall => ?_⟩
  · k_dat 0 "ml"
    have e : (remL R ds).isSome = false := by
      cases h : remL R ds with
      | none => rfl
      | some Te =>
        have : ((ds.map (inD n R)).all id) = true := by
          rw [List.all_eq_true]
          intro b hb
          obtain ⟨g, hg, rfl⟩ := List.mem_map.mp hb
          obtain ⟨r, e1, e2⟩ := remL_mem h g hg
          unfold inD
          rw [e1]
          show (arrowB n r.1 r.2.1 r.2.2 && decide (r ∈ R)) = true
          rw [(hR r e2).2, decide_eq_true e2]
          rfl
        rw [this] at hall
        cases hall
    rw [e] at hq
    exact ⟨_, [], ret_val rfl, hq⟩
  have hin : ∀ g ∈ ds, inD n R g = true := fun g hg => by
    have : ((ds.map (inD n R)).all id) = true := by simpa using hall
    exact List.all_eq_true.mp this _ (List.mem_map.mpr ⟨g, hg, rfl⟩)
  obtain ⟨gs, rfl⟩ := rows_of (ds := ds) fun g hg => by
    have h := hin g hg
    unfold inD at h
    split at h
    · rename_i r e
      exact ⟨r, e⟩
    · cases h
  have hgR : ∀ g ∈ gs, g ∈ R := fun g hg => by
    have h := hin (rowD g) (List.mem_map.mpr ⟨g, hg, rfl⟩)
    unfold inD at h
    rw [asRow_row] at h
    simp only [Bool.and_eq_true, decide_eq_true_eq] at h
    exact h.2
  clear hin hall hds hdl eb hd
  k_dat 0 "ml"
  refine ev_arrows CC rfl ?_
  k_dat 0 "ml"
  refine for_pre gs rowD rfl (fun pre ρ' => ∃ (x2 : Option Res) (x3 : Res), ρ' = [some (pu (chartP K C n R)), some (dat K (.tuple (gs.map rowD))), x2, some x3] ∧ (x3 = ML.lo K ((pre.foldl aft R).map rowD) ∨ x3 = dat K (.list ((pre.foldl aft R).map rowD))) ∧ remL R (gs.map rowD) = remL (pre.foldl aft R) ((gs.drop pre.length).map rowD)) ⟨none, _, rfl, .inl rfl, rfl⟩ ?_ ?_
  · rintro pre x post ρ' epre ⟨x2, x3, rfl, hx, hrem⟩
    have hsub := fold_sub pre R
    have hle := hsub.length_le
    have hsnoc : (pre ++ [x]).foldl aft R = aft (pre.foldl aft R) x := by
      rw [List.foldl_append]
      rfl
    have hdr : gs.drop pre.length = x :: post := by rw [epre, List.drop_left]
    have hdr2 : gs.drop (pre ++ [x]).length = post := by
      rw [epre, show pre ++ x :: post = (pre ++ [x]) ++ post by simp, List.drop_left]
    rw [hdr, List.map_cons, remL_row] at hrem
    have hxR : x ∈ R := hgR x (by rw [epre]; exact List.mem_append_right _ List.mem_cons_self)
    have lx := (hR x hxR).1
    rw [hsnoc, hdr2]
    generalize pre.foldl aft R = L at *
    have hLb : ∀ z ∈ L, Lbl z := fun z hz => (hR z (hsub.subset hz)).1
    have no : ∀ {ρ : MS}, ¬ (x ∈ L ∧ loopB L x = true) → ∃ R_1 Rs', retR 0 (.val (dat K (.bool false))) ρ R_1 Rs' ∧ q R_1 Rs' := fun h => by
      rw [if_neg h] at hrem
      rw [hrem] at hq
      exact ⟨_, [], ret_val rfl, hq⟩
    rcases hx with rfl | rfl
    · refine ⟨[2], by decide, ?_⟩
      k_dat 0 "ml"
      apply x_if
      k_dat 0 "ml"
      refine op_inRows L rd.val (.slotL rfl) (.inl rfl) lx hLb ?_
      rw [if_pos rfl]
      refine ⟨_, rfl, fun h => ⟨fun _ => ?_, fun h => Bool.noConfusion h⟩, fun h => ?_⟩
      · k_dat 0 "ml"
        exact no fun z => by simp [z.1] at h
      have hx1 : x ∈ L := by simpa using h
      k_dat 0 "ml"
      refine c_zero [_] ⟨_, L, rfl, .inl rfl, by omega, ?_⟩
      k_dat 0 "ml"
      refine c_zero [_, _, _] ⟨_, L, x, rfl, .inl rfl, by omega, ?_⟩
      refine ⟨_, rfl, fun h => ?_, fun h => ?_⟩
      · k_dat 0 "ml"
        exact no fun z => by simp [z.2] at h
      have hlb : loopB L x = true := by simpa using h
      k_dat 0 "ml"
      refine c_zero [_, _] ⟨L, x, rfl, by omega, hLb, hLb x hx1, ?_⟩
      k_dat 0 "ml"
      rw [if_pos ⟨hx1, hlb⟩] at hrem
      exact ⟨_, _, rfl, .inr rfl, hrem⟩
    · refine ⟨[2], by decide, ?_⟩
      k_dat 0 "ml"
      apply x_if
      k_dat 0 "ml"
      refine op_inRows L rd.val rd.val (.inl rfl) lx hLb ?_
      rw [if_pos rfl]
      refine ⟨_, rfl, fun h => ⟨fun _ => ?_, fun h => Bool.noConfusion h⟩, fun h => ?_⟩
      · k_dat 0 "ml"
        exact no fun z => by simp [z.1] at h
      have hx1 : x ∈ L := by simpa using h
      k_dat 0 "ml"
      refine c_zero [_] ⟨_, L, rfl, .inl rfl, by omega, ?_⟩
      k_dat 0 "ml"
      refine c_zero [_, _, _] ⟨_, L, x, rfl, .inl rfl, by omega, ?_⟩
      refine ⟨_, rfl, fun h => ?_, fun h => ?_⟩
      · k_dat 0 "ml"
        exact no fun z => by simp [z.2] at h
      have hlb : loopB L x = true := by simpa using h
      k_dat 0 "ml"
      refine c_zero [_, _] ⟨L, x, rfl, by omega, hLb, hLb x hx1, ?_⟩
      k_dat 0 "ml"
      rw [if_pos ⟨hx1, hlb⟩] at hrem
      exact ⟨_, _, rfl, .inr rfl, hrem⟩
  · rintro ρ' ⟨x2, x3, rfl, hx, hrem⟩
    k_dat 0 "ml"
    have e : (remL R (gs.map rowD)).isSome = true := by
      rw [hrem, List.drop_length]
      rfl
    rw [e] at hq
    exact ⟨_, [], ret_val rfl, hq⟩
end
end K24

/-! The law's _law_seen: what is reached, one after another. -/
namespace K24
open PySem L2 KS GL LB K24m ML
open CH (outs sucs)
open PySem.Spec hiding Row
open PyProof.Rows hiding cnt
def avO : Option Int → Int
  | none => -1
  | some v => v
def optI : Option Int → PyData
  | none => .none
  | some v => .int v
def keyO (o : Option Int) : KN := o.map fun v => (Sum.inl v : Key)
theorem keyN_O (o : Option Int) : keyN (keyO o) = optI o := by
  cases o <;> rfl
def cntB (v t : Int) : Bool := decide (t ≠ -1 ∧ t ≠ v)
theorem outs_snoc (R : List Row) (r : Row) (s : Int) : outs (R ++ [r]) s = outs R s ++ if s = r.1 then [r.2.2] else [] := by
  unfold outs
  rw [List.filter_append, List.map_append]
  by_cases h : s = r.1
  · rw [if_pos h]
    simp [List.filter_cons, h]
  · rw [if_neg h]
    have : ¬ r.1 = s := fun e => h e.symm
    simp [List.filter_cons, this]
theorem outs_tgt {R : List Row} {s t : Int} (h : t ∈ outs R s) : t ∈ R.map (·.2.2) := by
  obtain ⟨r, hr, e⟩ := List.mem_map.mp h
  exact List.mem_map.mpr ⟨r, (List.mem_filter.mp hr).1, e⟩
theorem _root_.LB.Wl.same {succ : Int → List Int} {st : Int} {F W W' : List Int} (w : Wl succ st F W) (h : ∀ x, x ∈ W ↔ x ∈ W') : Wl succ st F W' :=
  ⟨w.nd, w.fst, fun x hx => w.sub x ((h x).mpr hx), w.ok, fun x hx no => w.done x hx fun z => no ((h x).mp z)⟩
theorem few2 {R : List Row} {v st x : Int} {F W N ts : List Int} (w : Wl (avs R v) st F W) (i : Wi (cntB v) F ts N) (hts : ∀ t ∈ ts, t ∈ outs R x) : (F ++ N).length ≤ R.length + 1 := by
  have := nodup_len (F ++ N) (st :: R.map (·.2.2)) i.nd fun y hy => by
    rcases List.mem_append.mp hy with h | h
    · rcases (w.ok y h).tgt (T := R.map (·.2.2)) (fun a b hb => avs_tgt a b hb) with rfl | h
      · exact List.mem_cons_self
      · exact List.mem_cons_of_mem _ h
    · exact List.mem_cons_of_mem _ (outs_tgt (hts y (i.new y h).1))
  simpa using this
theorem has_init (st : Int) (o : Option Int) (t : Int) : hasN [some (Sum.inl st), keyO o, some (Sum.inl (-1))] (some (Sum.inl t)) = (decide (t ∈ [st]) || !cntB (avO o) t) := by
  have e1 : ∀ a : Int, decide ((some (Sum.inl a : Key) : KN) = some (Sum.inl t)) = decide (t = a) := fun a => by
    by_cases h : t = a
    · rw [h]
      simp
    · rw [decide_eq_false h, decide_eq_false fun e => h (Sum.inl.inj (Option.some.inj e)).symm]
  unfold hasN cntB
  rw [List.any_cons, List.any_cons, List.any_cons, List.any_nil, e1, e1, Bool.or_false]
  cases o with
  | none =>
    have e2 : decide (keyO none = some (Sum.inl t)) = false := decide_eq_false fun e => nomatch (show (none : KN) = some (Sum.inl t) from e)
    rw [e2]
    simp [avO, Bool.or_comm]
  | some v =>
    have e2 : decide (keyO (some v) = some (Sum.inl t)) = decide (t = v) := e1 v
    rw [e2]
    by_cases h1 : t = v <;> by_cases h2 : t = -1 <;> simp [avO, h1, h2]
section
variable {P : Program} {w : World} {K : PySem.W.Frag} {mg : Str → Option Value} {base : Heap}
set_option hygiene false
local macro_rules | `(tactic| k_dat 0 "rd") => `(tactic| first | with_reducible apply rd.val | with_reducible apply rd.own | (apply rd.slot; apply Eq.refl) | (apply rd.slotL; apply Eq.refl))
local macro_rules | `(tactic| k_dat 0 "rdS") => `(tactic| first | with_reducible (apply rdS.l; apply rd.val) | with_reducible (apply rdS.t; apply rd.val) | with_reducible (apply rdS.l; apply rd.own) | (apply rdS.l; apply rd.slotL; apply Eq.refl) | (apply rdS.l; apply rd.slot; apply Eq.refl) | (apply rdS.t; apply rd.slot; apply Eq.refl))
local macro_rules | `(tactic| k_dat 0 "rdD") => `(tactic| first | with_reducible apply rdD.val | with_reducible apply rdD.own | (apply rdD.slot; apply Eq.refl) | (apply rdD.slotP; apply Eq.refl))
local macro_rules | `(tactic| k_dat 0 "sc") => `(tactic| first | apply Sc.int | apply Sc.bl | apply Sc.str | apply Sc.non)
local macro_rules | `(tactic| k_dat 0 "asD") => `(tactic| first | with_reducible apply asD.val | with_reducible apply asD.own | (apply asD.slot; apply Eq.refl))
local macro_rules | `(tactic| k_dat 0 "asX") => `(tactic| first | with_reducible apply asX.pure | with_reducible apply asX.own | (apply asX.slot; apply Eq.refl) | with_reducible apply asX.keep)
local macro_rules | `(tactic| k_dat 0 "nf") => `(tactic| first | (conv => arg 3; dsimp only [wipeM, List.set, List.map]) | skip)
local macro_rules | `(tactic| k_dat 0 "eq") => `(tactic| first | (dsimp only [wipeM, List.set, List.map]; done) | (dsimp only [wipeM, List.set, List.map]; apply Eq.refl) | apply Eq.refl)
local macro_rules | `(tactic| k_dat 0 "st") => `(tactic| first
  | ((with_reducible apply x_seq); k_dat 0 "nf") | ((with_reducible apply x_parT2); (case hi => omega); (case hj => omega)) | ((with_reducible apply x_asg2); (case hi => omega); (case hj => omega)) | ((with_reducible apply x_asg3); (case hi => omega); (case hj => omega); (case hl => omega)) | ((with_reducible apply x_par4); (case hi => omega); (case hj => omega); (case hk => omega); (case hl => omega)) | ((with_reducible apply x_par2); (case hij => omega); (case hi => omega); (case hj => omega)) | with_reducible first | (apply x_asg; case hl => decide) | apply x_drop | apply x_ret | apply x_next | apply x_break | apply x_cont
  | apply x_dput (K := K) | apply x_putN (K := K) | apply x_retN)
local macro_rules | `(tactic| k_dat 0 "ex") => `(tactic| with_reducible first
  | apply ev_int (K := K) | apply ev_str (K := K) | apply ev_bl (K := K) | apply ev_non (K := K)
  | apply ev_tup (K := K) | apply ev_lst (K := K) | apply ev_op | apply ev_un | apply ev_sset_rows (K := K) | apply ev_sset_ints (K := K) | apply ev_cb1 | apply ev_cb2 | apply ev_andV (K := K) | apply ev_orV (K := K) | apply ev_notV (K := K) | apply ev_if
  | apply ev_sl | apply evO_none | apply evO_some (K := K) | apply ev_rev | apply ev_bm1 | apply ev_bm0 | apply ev_dnew (K := K) | apply ev_disp (K := K) | apply ev_dget1 (K := K) | apply ev_dget2 (K := K) | apply ev_dinI (K := K) | apply ev_dninI (K := K) | apply ev_chainI (K := K)
  | apply ev_call | apply ev_call1
  | apply evD_nil | apply evD_cons | apply evA_nil | apply evA_x (K := K) | apply evPs_nil | apply evPs_cons
  | apply ev_dispN (K := K) | apply evPsN_nil | apply evPsN_cons | apply ev_ninN (K := K) | apply ev_ninR (K := K) | apply ev_dcR (K := K)
  | apply evT_val (K := K) | apply evT_B (K := K) | apply evT_and | apply evT_or | apply evT_not | apply evT_yes)
local macro_rules | `(tactic| k_dat 0 "vr") => `(tactic| first
  | ((with_reducible apply ev_var); (case h => apply Eq.refl)) | ((with_reducible apply ev_at); (case h => apply Eq.refl))
  | ((with_reducible apply x_augI); (case hi => decide); (case h0 => apply Eq.refl)))
local macro_rules | `(tactic| k_dat 0 "tg") => `(tactic| first
  | (with_reducible apply tg_name) | ((with_reducible apply tg_move); (case h => apply Eq.refl)) | ((with_reducible apply tg_tup); (case hn => rfl)) | (with_reducible apply tg_row) | (with_reducible apply tgs_nil) | (with_reducible apply tgs_consN))
local macro_rules | `(tactic| k_dat 0 "len") => `(tactic| ((first | apply lt_line | apply le_line); (try simp only [List.length_map, List.length_append, List.length_cons, List.length_nil, List.length_range]); omega))
local macro_rules | `(tactic| k_dat 0 "op") => `(tactic| first
  | ((with_reducible apply op_i0 (K := K)); (case h1 => k_dat 0 "rd"); (case h2 => k_dat 0 "rd"); (case hd => k_dat 0 "sc"))
  | ((with_reducible apply op_eqI (K := K)); (case h1 => k_dat 0 "rd"); (case h2 => k_dat 0 "rd")) | ((with_reducible apply op_neI (K := K)); (case h1 => k_dat 0 "rd"); (case h2 => k_dat 0 "rd"))
  | ((with_reducible apply op_eqS (K := K)); (case h1 => k_dat 0 "rd"); (case h2 => k_dat 0 "rd")) | ((with_reducible apply op_neS (K := K)); (case h1 => k_dat 0 "rd"); (case h2 => k_dat 0 "rd"))
  | ((with_reducible apply op_ixR0 (K := K)); (case h1 => k_dat 0 "rd"); (case h2 => k_dat 0 "rd")) | ((with_reducible apply op_ixR1 (K := K)); (case h1 => k_dat 0 "rd"); (case h2 => k_dat 0 "rd")) | ((with_reducible apply op_ixR2 (K := K)); (case h1 => k_dat 0 "rd"); (case h2 => k_dat 0 "rd"))
  | ((with_reducible apply un_i (K := K)); (case h1 => k_dat 0 "rd"); (case hd => k_dat 0 "sc"))
  | ((with_reducible apply un_len (K := K)); (case h => k_dat 0 "rdS")) | ((with_reducible apply un_list (K := K)); (case h => k_dat 0 "rdS")) | ((with_reducible apply un_tuple (K := K)); (case h => first | (apply rdS.l; k_dat 0 "rd") | (apply rdS.t; k_dat 0 "rd")))
  | ((with_reducible apply un_int (K := K)); (case h => k_dat 0 "rd")) | ((with_reducible apply un_lenD (K := K)); (case h => k_dat 0 "rdD")) | ((with_reducible apply un_listK (K := K)); (case h => k_dat 0 "rdD"))
  | ((with_reducible apply op_append (K := K)); (case hd => k_dat 0 "asD"); (case e => apply Eq.refl); (case hl => k_dat 0 "len"))
  | ((with_reducible apply op_cat_ (K := K)); (case h1 => k_dat 0 "rd"); (case h2 => k_dat 0 "rd"); (case hl => k_dat 0 "len"))
  | ((with_reducible apply op_max2 (K := K)); (case h1 => k_dat 0 "rd"); (case h2 => k_dat 0 "rd")) | ((with_reducible apply op_min2 (K := K)); (case h1 => k_dat 0 "rd"); (case h2 => k_dat 0 "rd"))
  | ((with_reducible apply sl_list_ (K := K)); (case h1 => k_dat 0 "rd")) | ((with_reducible apply sl_tup_ (K := K)); (case h1 => k_dat 0 "rd")))
local macro_rules | `(tactic| k_dat 0 "sp") => `(tactic| first
  | ((with_reducible (apply Exists.intro; apply And.intro)); (case left => with_reducible apply Eq.refl))
  | ((with_reducible (apply Exists.intro; apply And.intro)); (case left => first | k_dat 0 "rd" | k_dat 0 "rdD"))
  | ((with_reducible apply And.intro); (case left => (with_reducible apply Exists.intro); k_dat 0 "rdD"))
  | ((with_reducible (apply Exists.intro; apply Exists.intro; apply And.intro)); (case left => first | k_dat 0 "asD" | k_dat 0 "asX"))
  | ((with_reducible apply And.intro); (case left => apply len_le; apply Eq.refl))
  | ((with_reducible (apply Exists.intro (Sum.inl _); apply And.intro)); (case left => apply Eq.refl)) | ((with_reducible (apply Exists.intro (Sum.inr _); apply And.intro)); (case left => apply Eq.refl)))
local macro_rules | `(tactic| k_dat 0 "wk") => `(tactic| with_reducible first | apply x_forD (K := K) | apply x_lc (K := K) | apply wkD_list | apply wkD_tup | apply wkD_seq | apply wkD_rng1 | apply wkD_rng2 | apply wkD_str)
local macro_rules | `(tactic| k_dat 0 "ml1") => `(tactic| first | k_dat 0 "st" | k_dat 0 "ex" | k_dat 0 "wk" | k_dat 0 "vr" | k_dat 0 "tg" | k_dat 0 "op" | k_dat 0 "sp")
local macro_rules | `(tactic| k_dat 0 "ml") => `(tactic| repeat k_dat 0 "ml1")
def seenM (K : PySem.W.Frag) : MSp := fun Rs q => ∃ (d : PyData) (R : List Row) (st : Int) (o : Option Int), Rs = [dat K d, dat K (.int st), dat K (optI o)] ∧ seqD d R ∧ R.length ≤ 76 ∧
  ∀ F : List Int, F.Nodup → F.length ≤ 77 → (∀ x, x ∈ F ↔ Rch (avs R (avO o)) st x) → q (dat K (.list (F.map .int))) []
abbrev S_law_seen (K : PySem.W.Frag) : Sp := spOf 0 (seenM K)
theorem scSeen : FnScope ["_law_some", "_law_first", "_law_shut", "_law_leads", "_law_known", "_law_found", "_law_k", "_law_here", "_law_sign_here", "_law_there"] ["_law_some", "_law_first", "_law_shut"] (defScope sSeen) := ⟨rfl, rfl, rfl, by decide +kernel, rfl, by decide +kernel, by decide +kernel⟩
theorem ok_seen {f : Addr} {fd : FuncData} (G : Fun K "_law_seen" "_law_seen" sSeen f fd) (T : Blt mg) : FnG P w K mg base CX0 1 f fd ["_law_some", "_law_first", "_law_shut"] (S_law_seen K) := by
  refine fn_ml G scSeen (fun Rs q ⟨_, _, _, _, h, _⟩ => by rw [h]; rfl) (by decide) fun cdv A outer s H E hrG => ?_
  have hr := hrG.room
  have hu := hu_of hr
  have hu64 := hr.units
  refine ⟨_, (pss_cons (ps_asg (pe_tup (pa_cons pe_dnewK (pa_cons (pe_dispN (pps_cons (pv 1) pe_bl (pps_cons (pv 2) pe_bl (pps_cons (pe_un un_neg pe_int) pe_bl pps_nil))) (by rfl) (by rfl) (fun z => by cases z) (by decide)) (pa_cons (pe_lst (pa_cons (pv 1) pa_nil)) (pa_cons pe_int pa_nil))))) (pg_tup (n := 4) rfl (pgs_cons (pg_name (i := 3) scSeen.nd rfl (Or.inl rfl)) (pgs_cons (pg_name (i := 4) scSeen.nd rfl (Or.inl rfl)) (pgs_cons (pg_name (i := 5) scSeen.nd rfl (Or.inl rfl)) (pgs_cons (pg_name (i := 6) scSeen.nd rfl (Or.inl rfl)) pgs_nil))))))
  (pss_cons (ps_for PassesOwn.never rfl (pi_seq (pv 0)) (pg_tup (n := 3) rfl (pgs_cons (pg_name (i := 7) scSeen.nd rfl (Or.inl rfl)) (pgs_cons (pg_name (i := 8) scSeen.nd rfl (Or.inl rfl)) (pgs_cons (pg_name (i := 9) scSeen.nd rfl (Or.inl rfl)) pgs_nil))))
    (pss_one (ps_dput hu (pv 3) (pv 7) (pe_op op_cat (pe_dget2 hu (pv 3) (pv 7) (pe_lst pa_nil) ⟨rfl, rfl, rfl, rfl⟩) (pe_lst (pa_cons (pv 9) pa_nil))) rfl)))
  (pss_cons (ps_while PassesOwn.never (pt_cmpR op_lt (pv 6) (pe_callB call_lenQ (by rfl) T.b_len PySem.boot_len (pa_cons (pv 5) pa_nil)) (nomark _))
    (pss_cons (ps_for PassesOwn.never rfl (pi_list (pe_dget2 hu (pv 3) (pe_ix ix_list (pv 5) (pv 6) (fun _ _ => rfl)) (pe_lst pa_nil) ⟨rfl, rfl, rfl, rfl⟩)) (pg_name (i := 9) scSeen.nd rfl (Or.inl rfl))
    (pss_one (ps_if (pt_cmp (pc_ninN (pv 9) (pv 4)))
    (pss_cons (ps_putN (pv 4) (pv 9) pe_bl rfl)
  (pss_one (ps_expr (pe_bm PySem.F.plainAttrs_list PySem.F.slot_list_append PySem.F.type_list_append mt_append (pv 5) (pa_cons (pv 9) pa_nil)))))
    pss_nil)))
  (pss_one (ps_set (i := 6) scSeen.nd rfl (Or.inl rfl) (pe_op op_add (pv 6) pe_int)))))
  (pss_one (ps_ret (pv 5)))))), ?_⟩
  rintro Rs q ⟨d, R, st, o, rfl, hd, hl, hq⟩
  rw [outF_eq]
  try dsimp only [cxOf, Cx.nox, Cx.wish]
  show ML.ex 0 _ [some (dat K d), some (dat K (.int st)), some (dat K (optI o)), none, none, none, none, none, none, none] _
  k_dat 0 "ml"
  refine ⟨some (Sum.inl st), rfl, ?_⟩
  k_dat 0 "ml"
  refine ⟨keyO o, by rw [keyN_O], ?_⟩
  k_dat 0 "ml"
  refine ⟨some (Sum.inl (-1)), rfl, ?_⟩
  k_dat 0 "ml"
  refine ⟨(show 3 ≤ 15 by decide), ?_⟩
  k_dat 0 "ml"
  refine ⟨d, _, rfl, hd, ?_⟩
  refine for_pre R rowD rfl (fun pre ρ' => ∃ (m : List (Key × PyData)) (x7 x8 x9 : Option Res), ρ' = [some (dat K d), some (dat K (.int st)), some (dat K (optI o)), some (dk K m), some (dn P w [some (Sum.inl st), keyO o, some (Sum.inl (-1))]), some (ML.lo K [.int st]), some (dat K (.int 0)), x7, x8, x9] ∧
      m.length ≤ pre.length ∧ ∀ s, (mget m (Sum.inl s)).getD (.list []) = .list ((outs pre s).map .int)) ⟨[], none, none, none, rfl, Nat.le_refl _, fun s => rfl⟩ ?_ ?_
  · rintro pre x post ρ' epre ⟨m, x7, x8, x9, rfl, hm, hg⟩
    have hpl : pre.length ≤ 76 := by
      have := congrArg List.length epre
      simp at this
      omega
    refine ⟨[7, 8, 9], by decide, ?_⟩
    k_dat 0 "ml"
    refine ⟨m, _, _, .own, .slot rfl, ?_⟩
    rw [hg x.1]
    k_dat 0 "ml"
    have hlo : (outs pre x.1).length ≤ pre.length := by
      unfold outs
      rw [List.length_map]
      exact List.length_filter_le _ _
    refine op_cat_ rd.val rd.own (by k_dat 0 "len") ?_
    k_dat 0 "ml"
    refine ⟨⟨_, rfl⟩, ?_⟩
    k_dat 0 "ml"
    refine ⟨m, Sum.inl x.1, rfl, rfl, lt_line (by omega), _, _, _, _, rfl, ?_, fun s => ?_⟩
    · have := mput_len m (Sum.inl x.1 : Key) (.list ((outs pre x.1).map PyData.int ++ [.int x.2.2]))
      rw [List.length_append, List.length_singleton]
      omega
    · rw [mget_put, outs_snoc]
      by_cases h : s = x.1
      · rw [if_pos (by rw [h]), if_pos h, h, List.map_append]
        rfl
      · rw [if_neg fun z => h (Sum.inl.inj z), if_neg h, hg s, List.append_nil]
  · rintro ρ' ⟨m, x7, x8, x9, rfl, hm, hg⟩
    k_dat 0 "ml"
    refine x_while (fun mm ρ' => ∃ (F : List Int) (kk : Nat) (ks : List KN) (x7 x8 x9 : Option Res), ρ' = [some (dat K d), some (dat K (.int st)), some (dat K (optI o)), some (dk K m), some (dn P w ks), some (ML.lo K (F.map .int)), some (dat K (.int kk)), x7, x8, x9] ∧
      mm + kk = R.length + 2 ∧ kk ≤ F.length ∧ Wl (avs R (avO o)) st F (F.drop kk) ∧ ks.length = F.length + 2 ∧ ∀ t : Int, hasN ks (some (Sum.inl t)) = (decide (t ∈ F) || !cntB (avO o) t)) ?_ ?_
    · refine ⟨_, [st], 0, _, x7, x8, x9, rfl, rfl, Nat.zero_le _, Wl.init _ _, rfl, fun t => ?_⟩
      exact has_init st o t
    rintro mm ρ' ⟨F, kk, ks, y7, y8, y9, rfl, hmm, hkF, wl, hkl, hks⟩
    have hFl := wl.few (T := R.map (·.2.2)) fun a b hb => avs_tgt a b hb
    rw [List.length_map] at hFl
    k_dat 0 "ml"
    rw [List.length_map]
    refine ⟨fun h => ?_, fun h => ?_⟩
    · have hkk : kk < F.length := by simpa using h
      k_dat 0 "ml"
      have eF : (F.map PyData.int)[kk]? = some (.int F[kk]) := by
        rw [List.getElem?_map, List.getElem?_eq_getElem hkk]
        rfl
      have edr : F.drop kk = F[kk] :: F.drop (kk + 1) := List.drop_eq_getElem_cons hkk
      rw [edr] at wl
      have wl2 : Wl (avs R (avO o)) st F (F.drop (kk + 1) ++ [F[kk]]) := wl.same fun x => by
        rw [List.mem_cons, List.mem_append, List.mem_singleton]
        exact or_comm
      generalize F[kk] = x at eF wl2
      refine op_ixL (.slotL rfl) rd.val (atI_nat eF) ?_
      refine ⟨Sum.inl x, rfl, ?_⟩
      k_dat 0 "ml"
      refine ⟨m, _, _, .own, .slot rfl, ?_⟩
      rw [hg x]
      refine ⟨_, _, .val, ?_⟩
      refine for_pre (outs R x) PyData.int rfl (fun ts ρ' => ∃ (N : List Int) (ks : List KN) (y9 : Option Res), ρ' = [some (dat K d), some (dat K (.int st)), some (dat K (optI o)), some (dk K m), some (dn P w ks), some (ML.lo K ((F ++ N).map .int)), some (dat K (.int kk)), y7, y8, y9] ∧
        Wi (cntB (avO o)) F ts N ∧ ks.length = (F ++ N).length + 2 ∧ ∀ t : Int, hasN ks (some (Sum.inl t)) = (decide (t ∈ F ++ N) || !cntB (avO o) t)) ⟨[], ks, y9, by rw [List.append_nil], Wi.init wl2.nd, by rw [List.append_nil]; exact hkl, fun t => by rw [List.append_nil]; exact hks t⟩ ?_ ?_
      · rintro ts t post ρ' epre ⟨N, ks', z9, rfl, wi, hkl', hks'⟩
        have hfn := few2 (x := x) wl2 wi fun t ht => by rw [epre]; exact List.mem_append_left _ ht
        rw [List.length_append] at hfn hkl'
        refine ⟨[9], by decide, ?_⟩
        k_dat 0 "ml"
        apply x_if
        k_dat 0 "ml"
        refine ⟨some (Sum.inl t), rfl, _, rfl, ⟨_, rfl, fun h => ?_, fun h => ?_⟩⟩
        · rw [hks' t] at h
          have h2 : t ∉ F ++ N ∧ cntB (avO o) t = true := by
            simp only [Bool.not_eq_true', Bool.or_eq_false_iff, decide_eq_false_iff_not, Bool.not_eq_false'] at h
            exact h
          have wi' := wi.add h2.2 h2.1
          k_dat 0 "ml"
          refine ⟨⟨_, rfl⟩, ?_⟩
          k_dat 0 "ml"
          refine ⟨some (Sum.inl t), rfl, _, rfl, lt_line (by omega), ?_⟩
          k_dat 0 "ml"
          refine ⟨N ++ [t], ks' ++ [some (Sum.inl t)], some (dat K (.int t)), ?_, wi', ?_, fun z => ?_⟩
          · rw [← List.append_assoc, List.map_append (l₂ := [t])]
            rfl
          · rw [List.length_append, hkl']
            simp
            omega
          · rw [hasN_add, hks' z, hasN_one]
            have e : decide ((some (Sum.inl t) : KN) = some (Sum.inl z)) = decide (z = t) := by
              by_cases hz : z = t
              · rw [hz]
                simp
              · rw [decide_eq_false hz, decide_eq_false fun e => hz (Sum.inl.inj (Option.some.inj e)).symm]
            rw [e, ← List.append_assoc]
            have e2 : decide (z ∈ F ++ N ++ [t]) = (decide (z ∈ F ++ N) || decide (z = t)) := by
              rw [Bool.eq_iff_iff, Bool.or_eq_true, decide_eq_true_eq, decide_eq_true_eq, decide_eq_true_eq, List.mem_append (s := F ++ N), List.mem_singleton]
            rw [e2]
            cases decide (z ∈ F ++ N) <;> cases cntB (avO o) z <;> cases decide (z = t) <;> rfl
        · rw [hks' t] at h
          have h2 : cntB (avO o) t = true → t ∈ F ++ N := fun hc => by
            rw [hc] at h
            have h : (decide (t ∈ F ++ N) || !true) = true := by
              cases e : (decide (t ∈ F ++ N) || !true) with
              | true => rfl
              | false => rw [e] at h; cases h
            rw [Bool.not_true, Bool.or_false, decide_eq_true_eq] at h
            exact h
          k_dat 0 "ml"
          exact ⟨N, ks', _, rfl, wi.skip h2, by rw [List.length_append]; exact hkl', hks'⟩
      · rintro ρ' ⟨N, ks', z9, rfl, wi, hkl', hks'⟩
        k_dat 0 "ml"
        have wl3 := wl2.turn (fun y => by
          unfold avs cntB
          rw [List.mem_filter]) wi
        refine ⟨mm - 1, by omega, F ++ N, kk + 1, ks', y7, y8, z9, rfl, by omega, by rw [List.length_append]; omega, ?_, hkl', hks'⟩
        rw [List.drop_append_of_le_length (by omega)]
        exact wl3
    · have hkk : F.length ≤ kk := by simpa using h
      k_dat 0 "ml"
      have hd0 : F.drop kk = [] := List.drop_eq_nil_of_le hkk
      rw [hd0] at wl
      exact ⟨_, [], ret_dat (.slot rfl) rfl, hq F wl.nd (by omega) wl.fin⟩
end
end K24

/-! dict(pairs); rows taken away that lead nowhere. -/
namespace K24
open PySem L2 KS GL LB K24m ML
open CH (outs sucs)
open PySem.Spec hiding Row
open PyProof.Rows hiding cnt
def rDictP (K : PySem.W.Frag) : List V → Hp → VK → Prop := fun xs H Q => ∃ (a : Addr) (ps : List Addr) (kvs : List (Key × V)), xs = [.ref a] ∧ SqL K H a (ps.map V.ref) ∧ Paired (fun p kv => SqT K H p [kV kv.1, kv.2]) ps kvs ∧ ∀ p, H p = none → Q (.ref p) (upd H p (.dK (mergeK [] kvs)))
theorem call_dictPQ {X : Cx} (hc : X.calm = true) : CallR X (.type "dict") (rDictP X.K) := call_dictP hc
section
variable {K : PySem.W.Frag} {ρ : MS} {Q : Rt → MS → Prop} {r1 : Rt}
def pairD (kv : Key × PyData) : PyData := .tuple [keyD kv.1, kv.2]
theorem un_pairs {H : Hp} : ∀ {m : List (Key × PyData)} {xs : List V}, DaAll K H xs (m.map pairD) → ∃ (ps : List Addr) (kvs : List (Key × V)), xs = ps.map V.ref ∧ Paired (fun p kv => SqT K H p [kV kv.1, kv.2]) ps kvs ∧ DkAll K H kvs m
  | [], _, .nil => ⟨[], [], rfl, .nil, .nil⟩
  | (k, d) :: m, _, .cons h t => by
    obtain ⟨ps, kvs, rfl, h2, h3⟩ := un_pairs t
    unfold pairD at h
    cases h with
    | tup a1 a2 =>
      obtain ⟨⟩ | ⟨b1, b2⟩ := a2
      obtain ⟨⟩ | ⟨b2, b3⟩ := b2
      cases b3
      have := key_da b1
      subst this
      exact ⟨_ :: ps, (k, _) :: kvs, rfl, .cons a1 h2, .cons b2 h3⟩
theorem pair_mono {H H' : Hp} (s : Same H H') : ∀ {ps : List Addr} {kvs : List (Key × V)}, Paired (fun p (kv : Key × V) => SqT K H p [kV kv.1, kv.2]) ps kvs → Paired (fun p (kv : Key × V) => SqT K H' p [kV kv.1, kv.2]) ps kvs
  | _, _, .nil => .nil
  | _, _, .cons h t => .cons (sqT_mono s h) (pair_mono s t)
theorem un_dictP {m : List (Key × PyData)} {d : PyData} (e : d = .list (m.map pairD)) (h : rd K ρ r1 d) (q : Q (.val (dk K (mmerge m))) ρ) : unR (fun v H k => rDictP K [v] H k) r1 ρ Q := by
  subst e
  intro σ H0 H G v1 f1 k S e1 _ hk
  obtain ⟨a, xs, rfl, ha, hx⟩ := h.list S e1
  obtain ⟨ps, kvs, rfl, h2, h3⟩ := un_pairs hx
  refine ⟨a, ps, kvs, rfl, .inl (.inl ha), pair_mono S.same h2, fun p hp => ?_⟩
  have S1 : Sat ρ σ H0 H G := S.frame fun _ => .inl
  exact hk _ _ _ (fun a => a = p) _ _ q ⟨⟨Same.refl _, fun a ha => upd_ne fun e => (S1.fr a ha).1 (by rw [e]; exact hp)⟩, ⟨p, _, rfl, fun _ => Iff.rfl, S1.same.free hp, upd_same, dk_merge h3 .nil⟩, fun a e ha => (S1.fr a ha).1 (by rw [e]; exact hp), S1.own hp⟩
theorem merge_some : ∀ (m n : List (Key × PyData)) (k : Key), (mget (m.foldl (fun acc kv => mput acc kv.1 kv.2) n) k).isSome = ((mget n k).isSome || m.any fun kv => decide (kv.1 = k))
  | [], n, k => by simp
  | p :: m, n, k => by
    rw [List.foldl_cons, merge_some m (mput n p.1 p.2) k, mget_put, List.any_cons]
    by_cases h : k = p.1
    · rw [if_pos h, h]
      simp
    · rw [if_neg h, decide_eq_false fun e => h e.symm, Bool.false_or]
theorem src_some (L : List Row) (x : Int) : (mget (mmerge (L.map fun r => ((Sum.inl r.1 : Key), PyData.bool true))) (Sum.inl x)).isSome = decide (x ∈ L.map (·.1)) := by
  unfold mmerge
  rw [merge_some, mget_nil, Bool.eq_iff_iff]
  simp only [Option.isSome_none, Bool.false_or, List.any_eq_true, decide_eq_true_eq, List.mem_map]
  constructor
  · rintro ⟨_, ⟨r, hr, rfl⟩, e⟩
    exact ⟨r, hr, Sum.inl.inj e⟩
  · rintro ⟨r, hr, e⟩
    exact ⟨_, ⟨r, hr, rfl⟩, by rw [e]⟩
end
/-! ### rows that lead nowhere are taken away -/
theorem Rch.head {f : Int → List Int} {x y : Int} (h : Rch f x y) : x = y ∨ ∃ z ∈ f x, Rch f z y := by
  induction h with
  | refl => exact .inl rfl
  | @step u v hu hv ih =>
    rcases ih with rfl | ⟨z, hz, h⟩
    · exact .inr ⟨_, hv, .refl⟩
    · exact .inr ⟨z, hz, .step h hv⟩
def ontoB (L : List Row) (r : Row) : Bool := decide (r.2.2 ∈ L.map (·.1))
theorem ring_next {R : List Row} {e : Row} (he : e ∈ R) (h : Ring R e) : ∃ e' ∈ R, e'.1 = e.2.2 ∧ Ring R e' := by
  rcases Rch.head h.2 with h2 | ⟨z, hz, h2⟩
  · exact ⟨e, he, h2.symm, h⟩
  · obtain ⟨hne, lb, hm⟩ := mem_avs.mp hz
    exact ⟨(e.2.2, lb, z), hm, rfl, hne.1, .step h2 (mem_avs.mpr ⟨⟨h.1, h.1⟩, e.2.1, he⟩)⟩
theorem ring_onto {R L : List Row} (hL : ∀ e ∈ R, Ring R e → e ∈ L) : ∀ e ∈ R, Ring R e → e ∈ L.filter (ontoB L) := fun e he hr => by
  obtain ⟨e', h1, h2, h3⟩ := ring_next he hr
  exact List.mem_filter.mpr ⟨hL e he hr, decide_eq_true (List.mem_map.mpr ⟨e', hL e' h1 h3, h2⟩)⟩
theorem tr_path {E : Edges} {x y : Int} (h : Tr (fun a b => (a, b) ∈ E) x y) : Path E x y := by
  induction h with
  | one e => exact .one e
  | cons e _ ih => exact .cons e ih
theorem path_mono {E E' : Edges} (h : ∀ e ∈ E, e ∈ E') {x y : Int} (p : Path E x y) : Path E' x y := by
  induction p with
  | one e => exact .one (h _ e)
  | cons e _ ih => exact .cons (h _ e) ih
/-- what stands at last is empty exactly if there is no cycle -/
theorem onto_end {R L : List Row} (hs : ∀ r ∈ R, r.1 ≠ -1) (hLR : ∀ e ∈ L, e ∈ R) (hL : ∀ e ∈ R, Ring R e → e ∈ L) (hc : L.filter (ontoB L) = L) : L ≠ [] ↔ Cyc (edges R) := by
  constructor
  · intro hne
    have h1 : (L.map (·.1)) ≠ [] := fun e => hne (List.map_eq_nil_iff.mp e)
    obtain ⟨x, hx⟩ := round_of _ (L.map (·.1)) (fun a b => (a, b) ∈ edges L) (Nat.le_refl _) h1 fun a ha => by
      obtain ⟨r, hr, rfl⟩ := List.mem_map.mp ha
      have h2 : r.2.2 ∈ L.map (·.1) := of_decide_eq_true (List.filter_eq_self.mp hc r hr)
      obtain ⟨q, hq, e⟩ := List.mem_map.mp h2
      exact ⟨r.2.2, h2, row_edge hr fun z => hs q (hLR q hq) (e.trans z)⟩
    refine ⟨x, path_mono (fun e he => ?_) (tr_path hx)⟩
    obtain ⟨h3, lb, hm⟩ := edges_row (a := e.1) (b := e.2) he
    exact row_edge (r := (e.1, lb, e.2)) (hLR _ hm) h3
  · intro h e
    have h2 := cyc_ring.mp h
    obtain ⟨r, hr⟩ := List.exists_mem_of_ne_nil _ h2
    obtain ⟨h3, h4⟩ := List.mem_filter.mp hr
    have := hL r h3 (ringB_iff.mp h4)
    rw [e] at this
    cases this
end K24

/-! The law's _law_turns, _law_is_loop, _law_after. -/
namespace K24
open PySem L2 KS GL LB K24m ML
open CH (outs sucs)
open PySem.Spec hiding Row
open PyProof.Rows hiding cnt
section
variable {P : Program} {w : World} {K : PySem.W.Frag} {mg : Str → Option Value} {base : Heap}
set_option hygiene false
local macro_rules | `(tactic| k_dat 0 "rd") => `(tactic| first | with_reducible apply rd.val | with_reducible apply rd.own | (apply rd.slot; apply Eq.refl) | (apply rd.slotL; apply Eq.refl))
local macro_rules | `(tactic| k_dat 0 "rdS") => `(tactic| first | with_reducible (apply rdS.l; apply rd.val) | with_reducible (apply rdS.t; apply rd.val) | with_reducible (apply rdS.l; apply rd.own) | (apply rdS.l; apply rd.slotL; apply Eq.refl) | (apply rdS.l; apply rd.slot; apply Eq.refl) | (apply rdS.t; apply rd.slot; apply Eq.refl))
local macro_rules | `(tactic| k_dat 0 "rdD") => `(tactic| first | with_reducible apply rdD.val | with_reducible apply rdD.own | (apply rdD.slot; apply Eq.refl) | (apply rdD.slotP; apply Eq.refl))
local macro_rules | `(tactic| k_dat 0 "sc") => `(tactic| first | apply Sc.int | apply Sc.bl | apply Sc.str | apply Sc.non)
local macro_rules | `(tactic| k_dat 0 "asD") => `(tactic| first | with_reducible apply asD.val | with_reducible apply asD.own | (apply asD.slot; apply Eq.refl))
local macro_rules | `(tactic| k_dat 0 "asX") => `(tactic| first | with_reducible apply asX.pure | with_reducible apply asX.own | (apply asX.slot; apply Eq.refl) | with_reducible apply asX.keep)
local macro_rules | `(tactic| k_dat 0 "nf") => `(tactic| first | (conv => arg 3; dsimp only [wipeM, List.set, List.map]) | skip)
local macro_rules | `(tactic| k_dat 0 "eq") => `(tactic| first | (dsimp only [wipeM, List.set, List.map]; done) | (dsimp only [wipeM, List.set, List.map]; apply Eq.refl) | apply Eq.refl)
local macro_rules | `(tactic| k_dat 0 "st") => `(tactic| first
  | ((with_reducible apply x_seq); k_dat 0 "nf") | ((with_reducible apply x_parT2); (case hi => omega); (case hj => omega)) | ((with_reducible apply x_asg2); (case hi => omega); (case hj => omega)) | ((with_reducible apply x_asg3); (case hi => omega); (case hj => omega); (case hl => omega)) | ((with_reducible apply x_par4); (case hi => omega); (case hj => omega); (case hk => omega); (case hl => omega)) | ((with_reducible apply x_par2); (case hij => omega); (case hi => omega); (case hj => omega)) | with_reducible first | (apply x_asg; case hl => decide) | apply x_drop | apply x_ret | apply x_next | apply x_break | apply x_cont
  | apply x_dput (K := K) | apply x_putN (K := K) | apply x_retN)
local macro_rules | `(tactic| k_dat 0 "ex") => `(tactic| with_reducible first
  | apply ev_int (K := K) | apply ev_str (K := K) | apply ev_bl (K := K) | apply ev_non (K := K)
  | apply ev_tup (K := K) | apply ev_lst (K := K) | apply ev_op | apply ev_un | apply ev_sset_rows (K := K) | apply ev_sset_ints (K := K) | apply ev_cb1 | apply ev_cb2 | apply ev_andV (K := K) | apply ev_orV (K := K) | apply ev_notV (K := K) | apply ev_if
  | apply ev_sl | apply evO_none | apply evO_some (K := K) | apply ev_rev | apply ev_bm1 | apply ev_bm0 | apply ev_dnew (K := K) | apply ev_disp (K := K) | apply ev_dget1 (K := K) | apply ev_dget2 (K := K) | apply ev_dinI (K := K) | apply ev_dninI (K := K) | apply ev_chainI (K := K)
  | apply ev_call | apply ev_call1
  | apply evD_nil | apply evD_cons | apply evA_nil | apply evA_x (K := K) | apply evPs_nil | apply evPs_cons
  | apply ev_dispN (K := K) | apply evPsN_nil | apply evPsN_cons | apply ev_ninN (K := K) | apply ev_ninR (K := K) | apply ev_dcR (K := K)
  | apply evT_val (K := K) | apply evT_B (K := K) | apply evT_and | apply evT_or | apply evT_not | apply evT_yes)
local macro_rules | `(tactic| k_dat 0 "vr") => `(tactic| first
  | ((with_reducible apply ev_var); (case h => apply Eq.refl)) | ((with_reducible apply ev_at); (case h => apply Eq.refl))
  | ((with_reducible apply x_augI); (case hi => decide); (case h0 => apply Eq.refl)))
local macro_rules | `(tactic| k_dat 0 "tg") => `(tactic| first
  | (with_reducible apply tg_name) | ((with_reducible apply tg_move); (case h => apply Eq.refl)) | ((with_reducible apply tg_tup); (case hn => rfl)) | (with_reducible apply tg_row) | (with_reducible apply tgs_nil) | (with_reducible apply tgs_consN))
local macro_rules | `(tactic| k_dat 0 "len") => `(tactic| ((first | apply lt_line | apply le_line); (try simp only [List.length_map, List.length_append, List.length_cons, List.length_nil, List.length_range]); omega))
local macro_rules | `(tactic| k_dat 0 "op") => `(tactic| first
  | ((with_reducible apply op_i0 (K := K)); (case h1 => k_dat 0 "rd"); (case h2 => k_dat 0 "rd"); (case hd => k_dat 0 "sc"))
  | ((with_reducible apply op_eqI (K := K)); (case h1 => k_dat 0 "rd"); (case h2 => k_dat 0 "rd")) | ((with_reducible apply op_neI (K := K)); (case h1 => k_dat 0 "rd"); (case h2 => k_dat 0 "rd"))
  | ((with_reducible apply op_eqS (K := K)); (case h1 => k_dat 0 "rd"); (case h2 => k_dat 0 "rd")) | ((with_reducible apply op_neS (K := K)); (case h1 => k_dat 0 "rd"); (case h2 => k_dat 0 "rd"))
  | ((with_reducible apply op_ixR0 (K := K)); (case h1 => k_dat 0 "rd"); (case h2 => k_dat 0 "rd")) | ((with_reducible apply op_ixR1 (K := K)); (case h1 => k_dat 0 "rd"); (case h2 => k_dat 0 "rd")) | ((with_reducible apply op_ixR2 (K := K)); (case h1 => k_dat 0 "rd"); (case h2 => k_dat 0 "rd"))
  | ((with_reducible apply un_i (K := K)); (case h1 => k_dat 0 "rd"); (case hd => k_dat 0 "sc"))
  | ((with_reducible apply un_len (K := K)); (case h => k_dat 0 "rdS")) | ((with_reducible apply un_list (K := K)); (case h => k_dat 0 "rdS")) | ((with_reducible apply un_tuple (K := K)); (case h => first | (apply rdS.l; k_dat 0 "rd") | (apply rdS.t; k_dat 0 "rd")))
  | ((with_reducible apply un_int (K := K)); (case h => k_dat 0 "rd")) | ((with_reducible apply un_lenD (K := K)); (case h => k_dat 0 "rdD")) | ((with_reducible apply un_listK (K := K)); (case h => k_dat 0 "rdD"))
  | ((with_reducible apply op_append (K := K)); (case hd => k_dat 0 "asD"); (case e => apply Eq.refl); (case hl => k_dat 0 "len"))
  | ((with_reducible apply op_cat_ (K := K)); (case h1 => k_dat 0 "rd"); (case h2 => k_dat 0 "rd"); (case hl => k_dat 0 "len"))
  | ((with_reducible apply op_max2 (K := K)); (case h1 => k_dat 0 "rd"); (case h2 => k_dat 0 "rd")) | ((with_reducible apply op_min2 (K := K)); (case h1 => k_dat 0 "rd"); (case h2 => k_dat 0 "rd"))
  | ((with_reducible apply sl_list_ (K := K)); (case h1 => k_dat 0 "rd")) | ((with_reducible apply sl_tup_ (K := K)); (case h1 => k_dat 0 "rd")))
local macro_rules | `(tactic| k_dat 0 "sp") => `(tactic| first
  | ((with_reducible (apply Exists.intro; apply And.intro)); (case left => with_reducible apply Eq.refl))
  | ((with_reducible (apply Exists.intro; apply And.intro)); (case left => first | k_dat 0 "rd" | k_dat 0 "rdD"))
  | ((with_reducible apply And.intro); (case left => (with_reducible apply Exists.intro); k_dat 0 "rdD"))
  | ((with_reducible (apply Exists.intro; apply Exists.intro; apply And.intro)); (case left => first | k_dat 0 "asD" | k_dat 0 "asX"))
  | ((with_reducible apply And.intro); (case left => apply len_le; apply Eq.refl))
  | ((with_reducible (apply Exists.intro (Sum.inl _); apply And.intro)); (case left => apply Eq.refl)) | ((with_reducible (apply Exists.intro (Sum.inr _); apply And.intro)); (case left => apply Eq.refl)))
local macro_rules | `(tactic| k_dat 0 "wk") => `(tactic| with_reducible first | apply x_forD (K := K) | apply x_lc (K := K) | apply wkD_list | apply wkD_tup | apply wkD_seq | apply wkD_rng1 | apply wkD_rng2 | apply wkD_str)
local macro_rules | `(tactic| k_dat 0 "ml1") => `(tactic| first | k_dat 0 "st" | k_dat 0 "ex" | k_dat 0 "wk" | k_dat 0 "vr" | k_dat 0 "tg" | k_dat 0 "op" | k_dat 0 "sp")
local macro_rules | `(tactic| k_dat 0 "ml") => `(tactic| repeat k_dat 0 "ml1")
def turnsM (K : PySem.W.Frag) : MSp := fun Rs q => ∃ R : List Row, Rs = [dat K (.list (R.map rowD))] ∧ R.length ≤ 76 ∧ (∀ r ∈ R, r.1 ≠ -1) ∧ (∀ r ∈ R, Lbl r) ∧ ∀ b : Bool, (b = true ↔ Cyc (edges R)) → q (dat K (.bool b)) []
abbrev S_law_turns (K : PySem.W.Frag) : Sp := spOf 0 (turnsM K)
theorem scTurns : FnScope ["_law_some", "_law_left", "_law_size", "_law_sources", "_law_row"] ["_law_some"] (defScope sTurns) := ⟨rfl, rfl, rfl, by decide +kernel, rfl, by decide +kernel, by decide +kernel⟩
theorem ok_turns {f : Addr} {fd : FuncData} (G : Fun K "_law_turns" "_law_turns" sTurns f fd) (T : Blt mg) : FnG P w K mg base CX0 1 f fd ["_law_some"] (S_law_turns K) := by
  refine fn_ml G scTurns (fun Rs q ⟨_, h, _⟩ => by rw [h]; rfl) (by decide) fun cdv A outer s H E hrG => ?_
  have hr := hrG.room
  have hu := hu_of hr
  have hu64 := hr.units
  refine ⟨_, (pss_cons (ps_par (i := 1) (j := 2) rfl scTurns.nd rfl rfl (by decide) rfl rfl (pa_cons (pe_callTy call_listQ (by rfl) T.b_list (by decide +kernel) (pa_cons (pv 0) pa_nil)) (pa_cons (pe_un un_neg pe_int) pa_nil)) (by rfl))
  (pss_cons (ps_while PassesOwn.never (pt_cmpR op_ne (pv 2) (pe_callB call_lenQ (by rfl) T.b_len PySem.boot_len (pa_cons (pv 1) pa_nil)) (nomark _))
    (pss_cons (ps_asg (pe_tup (pa_cons (pe_callB call_lenQ (by rfl) T.b_len PySem.boot_len (pa_cons (pv 1) pa_nil)) (pa_cons (pe_callTy (call_dictPQ rfl) (by rfl) T.b_dict (by decide +kernel) (pa_cons (pe_lc (own := [("_law_row", 4)]) (g := gName 4) (tt := tYes) (te := (tTup (tCons (tOp (rIxT K) (tVar 4) _) (tCons _ tNil)))) rfl scTurns.nd (pi_list (pv 1)) (blkOk_by (own := [("_law_row", 4)]) (N := ["_law_some", "_law_left", "_law_size", "_law_sources", "_law_row"]) (sc := defScope sTurns) (by decide +kernel)) (fun _ _ _ _ _ => (pg_name (i := 4) scTurns.nd rfl (by first | exact Or.inl rfl | exact Or.inr rfl))) (fun _ _ _ _ _ => pts_nil) (fun _ _ _ _ _ => (pe_tup (pa_cons (pe_ix ix_tup (pv 4) pe_int (fun _ _ => rfl)) (pa_cons pe_bl pa_nil))))) pa_nil)) pa_nil))) (pg_tup (n := 2) rfl (pgs_cons (pg_name (i := 2) scTurns.nd rfl (Or.inl rfl)) (pgs_cons (pg_name (i := 3) scTurns.nd rfl (Or.inr rfl)) pgs_nil))))
  (pss_one (ps_setLc (i := 1) (own := [("_law_row", 4)]) (g := gName 4) (tt := (tB (tDIn (tOp (rIxT K) (tVar 4) _) (tVar 3)))) (te := (tVar 4)) rfl scTurns.nd rfl rfl (sw_true rfl rfl rfl (by decide +kernel)) (pi_list (pv 1)) (blkOk_by (own := [("_law_row", 4)]) (N := ["_law_some", "_law_left", "_law_size", "_law_sources", "_law_row"]) (sc := defScope sTurns) (by decide +kernel)) (fun _ _ _ _ _ => (pg_name (i := 4) scTurns.nd rfl (by first | exact Or.inl rfl | exact Or.inr rfl))) (fun _ _ _ _ _ => pts_one (pt_cmp (pc_din hu (pe_ix ix_tup (pv 4) pe_int (fun _ _ => rfl)) (pv 3)))) (fun _ _ _ _ _ => (pv 4))))))
  (pss_one (ps_ret (pe_cmpR (op_neD hu64) (pv 1) (pe_lst pa_nil) (nomark _)))))), ?_⟩
  rintro Rs q ⟨R, rfl, hl, hs, hlb, hq⟩
  rw [outF_eq]
  try dsimp only [cxOf, Cx.nox, Cx.wish]
  show ML.ex 0 _ [some (dat K (.list (R.map rowD))), none, none, none, none] _
  k_dat 0 "ml"
  refine x_while (fun m ρ' => ∃ (L : List Row) (sz : Int) (x3 x4 : Option Res), ρ' = [some (dat K (.list (R.map rowD))), some (ML.lo K (L.map rowD)), some (dat K (.int sz)), x3, x4] ∧ (∀ e ∈ L, e ∈ R) ∧ (∀ e ∈ R, Ring R e → e ∈ L) ∧ L.length ≤ R.length ∧
      ((sz = -1 ∧ m = R.length + 1) ∨ (sz = m ∧ ∃ Lp : List Row, Lp.length = m ∧ L = Lp.filter (ontoB Lp)))) ⟨_, R, -1, none, none, rfl, fun _ h => h, fun _ h _ => h, Nat.le_refl _, .inl ⟨rfl, rfl⟩⟩ ?_
  rintro m ρ' ⟨L, sz, x3, x4, rfl, hLR, hRL, hLl, hsz⟩
  k_dat 0 "ml"
  rw [List.length_map]
  refine ⟨fun h => ?_, fun h => ?_⟩
  · have hne : ¬ sz = (L.length : Int) := by simpa using h
    k_dat 0 "ml"
    refine lc_fm L rowD rfl (by omega) (fun _ => true) (fun r => .tuple [.int r.1, .bool true]) (fun r hr => ⟨[4], by decide, ?_⟩) ?_
    · k_dat 0 "ml"
      refine ⟨fun _ => ?_, fun h => Bool.noConfusion h⟩
      k_dat 0 "ml"
      exact ⟨rfl, rfl, by k_dat 0 "eq"⟩
    k_dat 0 "ml"
    refine un_dictP (m := L.map fun r => ((Sum.inl r.1 : Key), PyData.bool true)) ?_ rd.own ?_
    · rw [List.filter_eq_self.mpr fun _ _ => rfl, List.map_map]
      rfl
    k_dat 0 "ml"
    refine lc_fm L rowD rfl (by omega) (fun r => ontoB L r) rowD (fun r hr => ⟨[4], by decide, ?_⟩) ?_
    · k_dat 0 "ml"
      rw [src_some]
      refine ⟨fun h => ?_, fun h => ⟨h, by k_dat 0 "eq"⟩⟩
      k_dat 0 "ml"
      exact ⟨h, rfl, by k_dat 0 "eq"⟩
    k_dat 0 "ml"
    have hlt : L.length < m := by
      rcases hsz with ⟨h1, h2⟩ | ⟨h1, Lp, h2, h3⟩
      · omega
      · have h4 : L.length ≤ Lp.length := by
          rw [h3]
          exact List.length_filter_le _ _
        omega
    exact ⟨L.length, hlt, L.filter (ontoB L), ((L.map rowD).length : Nat), _, none, by k_dat 0 "eq", fun e he => hLR e (List.mem_filter.mp he).1, ring_onto hRL, Nat.le_trans (List.length_filter_le _ _) hLl, .inr ⟨by rw [List.length_map], L, rfl, rfl⟩⟩
  · have he : sz = (L.length : Int) := by simpa using h
    have hc : L.filter (ontoB L) = L := by
      rcases hsz with ⟨h1, h2⟩ | ⟨h1, Lp, h2, h3⟩
      · omega
      · have h4 : (Lp.filter (ontoB Lp)).length = Lp.length := by
          rw [← h3]
          omega
        have h5 : Lp.filter (ontoB Lp) = Lp := List.filter_eq_self.mpr fun a ha => List.length_filter_eq_length_iff.mp h4 a ha
        rw [h3, h5, h5]
    have fin := onto_end hs hLR hRL hc
    k_dat 0 "ml"
    refine op_dne (.slotL rfl) rd.own (shaped_rowsL fun e he => hlb e (hLR e he)) shaped_nil ?_
    rw [eqv_list_nil]
    refine ⟨_, [], ret_val rfl, hq _ ?_⟩
    rw [← fin]
    cases L <;> simp
end
end K24

/-! The law's _law_is_loop, _law_after. -/
namespace K24
open PySem L2 KS GL LB K24m ML
open CH (outs sucs)
open PySem.Spec hiding Row
open PyProof.Rows hiding cnt
section
variable {P : Program} {w : World} {K : PySem.W.Frag} {mg : Str → Option Value} {base : Heap}
set_option hygiene false
local macro_rules | `(tactic| k_dat 0 "rd") => `(tactic| first | with_reducible apply rd.val | with_reducible apply rd.own | (apply rd.slot; apply Eq.refl) | (apply rd.slotL; apply Eq.refl))
local macro_rules | `(tactic| k_dat 0 "rdS") => `(tactic| first | with_reducible (apply rdS.l; apply rd.val) | with_reducible (apply rdS.t; apply rd.val) | with_reducible (apply rdS.l; apply rd.own) | (apply rdS.l; apply rd.slotL; apply Eq.refl) | (apply rdS.l; apply rd.slot; apply Eq.refl) | (apply rdS.t; apply rd.slot; apply Eq.refl))
local macro_rules | `(tactic| k_dat 0 "rdD") => `(tactic| first | with_reducible apply rdD.val | with_reducible apply rdD.own | (apply rdD.slot; apply Eq.refl) | (apply rdD.slotP; apply Eq.refl))
local macro_rules | `(tactic| k_dat 0 "sc") => `(tactic| first | apply Sc.int | apply Sc.bl | apply Sc.str | apply Sc.non)
local macro_rules | `(tactic| k_dat 0 "asD") => `(tactic| first | with_reducible apply asD.val | with_reducible apply asD.own | (apply asD.slot; apply Eq.refl))
local macro_rules | `(tactic| k_dat 0 "asX") => `(tactic| first | with_reducible apply asX.pure | with_reducible apply asX.own | (apply asX.slot; apply Eq.refl) | with_reducible apply asX.keep)
local macro_rules | `(tactic| k_dat 0 "nf") => `(tactic| first | (conv => arg 3; dsimp only [wipeM, List.set, List.map]) | skip)
local macro_rules | `(tactic| k_dat 0 "eq") => `(tactic| first | (dsimp only [wipeM, List.set, List.map]; done) | (dsimp only [wipeM, List.set, List.map]; apply Eq.refl) | apply Eq.refl)
local macro_rules | `(tactic| k_dat 0 "st") => `(tactic| first
  | ((with_reducible apply x_seq); k_dat 0 "nf") | ((with_reducible apply x_parT2); (case hi => omega); (case hj => omega)) | ((with_reducible apply x_asg2); (case hi => omega); (case hj => omega)) | ((with_reducible apply x_asg3); (case hi => omega); (case hj => omega); (case hl => omega)) | ((with_reducible apply x_par4); (case hi => omega); (case hj => omega); (case hk => omega); (case hl => omega)) | ((with_reducible apply x_par2); (case hij => omega); (case hi => omega); (case hj => omega)) | with_reducible first | (apply x_asg; case hl => decide) | apply x_drop | apply x_ret | apply x_next | apply x_break | apply x_cont
  | apply x_dput (K := K) | apply x_putN (K := K) | apply x_retN)
local macro_rules | `(tactic| k_dat 0 "ex") => `(tactic| with_reducible first
  | apply ev_int (K := K) | apply ev_str (K := K) | apply ev_bl (K := K) | apply ev_non (K := K)
  | apply ev_tup (K := K) | apply ev_lst (K := K) | apply ev_op | apply ev_un | apply ev_sset_rows (K := K) | apply ev_sset_ints (K := K) | apply ev_cb1 | apply ev_cb2 | apply ev_andV (K := K) | apply ev_orV (K := K) | apply ev_notV (K := K) | apply ev_if
  | apply ev_sl | apply evO_none | apply evO_some (K := K) | apply ev_rev | apply ev_bm1 | apply ev_bm0 | apply ev_dnew (K := K) | apply ev_disp (K := K) | apply ev_dget1 (K := K) | apply ev_dget2 (K := K) | apply ev_dinI (K := K) | apply ev_dninI (K := K) | apply ev_chainI (K := K)
  | apply ev_call | apply ev_call1
  | apply evD_nil | apply evD_cons | apply evA_nil | apply evA_x (K := K) | apply evPs_nil | apply evPs_cons
  | apply ev_dispN (K := K) | apply evPsN_nil | apply evPsN_cons | apply ev_ninN (K := K) | apply ev_ninR (K := K) | apply ev_dcR (K := K)
  | apply evT_val (K := K) | apply evT_B (K := K) | apply evT_and | apply evT_or | apply evT_not | apply evT_yes)
local macro_rules | `(tactic| k_dat 0 "vr") => `(tactic| first
  | ((with_reducible apply ev_var); (case h => apply Eq.refl)) | ((with_reducible apply ev_at); (case h => apply Eq.refl))
  | ((with_reducible apply x_augI); (case hi => decide); (case h0 => apply Eq.refl)))
local macro_rules | `(tactic| k_dat 0 "tg") => `(tactic| first
  | (with_reducible apply tg_name) | ((with_reducible apply tg_move); (case h => apply Eq.refl)) | ((with_reducible apply tg_tup); (case hn => rfl)) | (with_reducible apply tg_row) | (with_reducible apply tgs_nil) | (with_reducible apply tgs_consN))
local macro_rules | `(tactic| k_dat 0 "len") => `(tactic| ((first | apply lt_line | apply le_line); (try simp only [List.length_map, List.length_append, List.length_cons, List.length_nil, List.length_range]); omega))
local macro_rules | `(tactic| k_dat 0 "op") => `(tactic| first
  | ((with_reducible apply op_i0 (K := K)); (case h1 => k_dat 0 "rd"); (case h2 => k_dat 0 "rd"); (case hd => k_dat 0 "sc"))
  | ((with_reducible apply op_eqI (K := K)); (case h1 => k_dat 0 "rd"); (case h2 => k_dat 0 "rd")) | ((with_reducible apply op_neI (K := K)); (case h1 => k_dat 0 "rd"); (case h2 => k_dat 0 "rd"))
  | ((with_reducible apply op_eqS (K := K)); (case h1 => k_dat 0 "rd"); (case h2 => k_dat 0 "rd")) | ((with_reducible apply op_neS (K := K)); (case h1 => k_dat 0 "rd"); (case h2 => k_dat 0 "rd"))
  | ((with_reducible apply op_ixR0 (K := K)); (case h1 => k_dat 0 "rd"); (case h2 => k_dat 0 "rd")) | ((with_reducible apply op_ixR1 (K := K)); (case h1 => k_dat 0 "rd"); (case h2 => k_dat 0 "rd")) | ((with_reducible apply op_ixR2 (K := K)); (case h1 => k_dat 0 "rd"); (case h2 => k_dat 0 "rd"))
  | ((with_reducible apply un_i (K := K)); (case h1 => k_dat 0 "rd"); (case hd => k_dat 0 "sc"))
  | ((with_reducible apply un_len (K := K)); (case h => k_dat 0 "rdS")) | ((with_reducible apply un_list (K := K)); (case h => k_dat 0 "rdS")) | ((with_reducible apply un_tuple (K := K)); (case h => first | (apply rdS.l; k_dat 0 "rd") | (apply rdS.t; k_dat 0 "rd")))
  | ((with_reducible apply un_int (K := K)); (case h => k_dat 0 "rd")) | ((with_reducible apply un_lenD (K := K)); (case h => k_dat 0 "rdD")) | ((with_reducible apply un_listK (K := K)); (case h => k_dat 0 "rdD"))
  | ((with_reducible apply op_append (K := K)); (case hd => k_dat 0 "asD"); (case e => apply Eq.refl); (case hl => k_dat 0 "len"))
  | ((with_reducible apply op_cat_ (K := K)); (case h1 => k_dat 0 "rd"); (case h2 => k_dat 0 "rd"); (case hl => k_dat 0 "len"))
  | ((with_reducible apply op_max2 (K := K)); (case h1 => k_dat 0 "rd"); (case h2 => k_dat 0 "rd")) | ((with_reducible apply op_min2 (K := K)); (case h1 => k_dat 0 "rd"); (case h2 => k_dat 0 "rd"))
  | ((with_reducible apply sl_list_ (K := K)); (case h1 => k_dat 0 "rd")) | ((with_reducible apply sl_tup_ (K := K)); (case h1 => k_dat 0 "rd")))
local macro_rules | `(tactic| k_dat 0 "sp") => `(tactic| first
  | ((with_reducible (apply Exists.intro; apply And.intro)); (case left => with_reducible apply Eq.refl))
  | ((with_reducible (apply Exists.intro; apply And.intro)); (case left => first | k_dat 0 "rd" | k_dat 0 "rdD"))
  | ((with_reducible apply And.intro); (case left => (with_reducible apply Exists.intro); k_dat 0 "rdD"))
  | ((with_reducible (apply Exists.intro; apply Exists.intro; apply And.intro)); (case left => first | k_dat 0 "asD" | k_dat 0 "asX"))
  | ((with_reducible apply And.intro); (case left => apply len_le; apply Eq.refl))
  | ((with_reducible (apply Exists.intro (Sum.inl _); apply And.intro)); (case left => apply Eq.refl)) | ((with_reducible (apply Exists.intro (Sum.inr _); apply And.intro)); (case left => apply Eq.refl)))
local macro_rules | `(tactic| k_dat 0 "wk") => `(tactic| with_reducible first | apply x_forD (K := K) | apply x_lc (K := K) | apply wkD_list | apply wkD_tup | apply wkD_seq | apply wkD_rng1 | apply wkD_rng2 | apply wkD_str)
local macro_rules | `(tactic| k_dat 0 "ml1") => `(tactic| first | k_dat 0 "st" | k_dat 0 "ex" | k_dat 0 "wk" | k_dat 0 "vr" | k_dat 0 "tg" | k_dat 0 "op" | k_dat 0 "sp")
local macro_rules | `(tactic| k_dat 0 "ml") => `(tactic| repeat k_dat 0 "ml1")
def lawLoopM (K : PySem.W.Frag) : MSp := fun Rs q => ∃ (d : PyData) (R : List Row) (r : Row), Rs = [dat K d, dat K (rowD r)] ∧ seqD d R ∧ R.length ≤ 76 ∧ (∀ x ∈ R, x.1 ≠ -1) ∧ (∀ x ∈ R, Lbl x) ∧ q (dat K (.bool (loopB R r))) []
abbrev S_law_is_loop (K : PySem.W.Frag) : Sp := spOf 0 (lawLoopM K)
theorem scIsLoopL : FnScope ["_law_some", "_law_row", "_law_v", "_law_w", "_law_near", "_law_onward", "_law_line", "_law_ends"] ["_law_some", "_law_row"] (defScope sIsLoop) := ⟨rfl, rfl, rfl, by decide +kernel, rfl, by decide +kernel, by decide +kernel⟩
theorem ok_isloopL {f : Addr} {fd : FuncData} (G : Fun K "_law_is_loop" "_law_is_loop" sIsLoop f fd) (T : Blt mg) (h_law_seen : HasM P w K mg base "_law_seen" 1 ["_law_some", "_law_first", "_law_shut"] (S_law_seen K)) (h_law_turns : HasM P w K mg base "_law_turns" 1 ["_law_some"] (S_law_turns K)) :
    FnG P w K mg base CX0 2 f fd ["_law_some", "_law_row"] (S_law_is_loop K) := by
  refine fn_ml G scIsLoopL (fun Rs q ⟨_, _, _, h, _⟩ => by rw [h]; rfl) (by decide) fun cdv A outer s H E hrG => ?_
  have hr := hrG.room
  have hu := hu_of hr
  have hu64 := hr.units
  refine ⟨_, (pss_cons (ps_asg (pe_tup (pa_cons (pe_ix ix_tup (pv 1) pe_int (fun _ _ => rfl)) (pa_cons (pe_ix ix_tup (pv 1) pe_int (fun _ _ => rfl)) pa_nil))) (pg_tup (n := 2) rfl (pgs_cons (pg_name (i := 2) scIsLoopL.nd rfl (Or.inr rfl)) (pgs_cons (pg_name (i := 3) scIsLoopL.nd rfl (Or.inl rfl)) pgs_nil))))
  (pss_cons (ps_if (pt_cmpR op_in_seq (pv 3) (pe_tup (pa_cons (pv 2) (pa_cons (pe_un un_neg pe_int) pa_nil))) (by rfl))
    (pss_one (ps_ret (pe_cmpR op_eq (pv 3) (pv 2) (nomark _))))
    pss_nil)
  (pss_cons (ps_set (i := 4) scIsLoopL.nd rfl (Or.inr rfl) (pe_hg h_law_seen (hrG.mono (by decide)) rfl (pa_cons (pv 0) (pa_cons (pv 3) (pa_cons (pv 2) pa_nil)))))
  (pss_cons (ps_setLc (i := 5) (own := [("_law_line", 6)]) (g := gName 6) (tt := (tTest (tOp (rIn K false) (tOp (rIxT K) (tVar 6) _) (tVar 4)))) (te := (tVar 6)) rfl scIsLoopL.nd rfl rfl (sw_true rfl rfl rfl (by decide +kernel)) (pi_seq (pv 0)) (blkOk_by (own := [("_law_line", 6)]) (N := ["_law_some", "_law_row", "_law_v", "_law_w", "_law_near", "_law_onward", "_law_line", "_law_ends"]) (sc := defScope sIsLoop) (by decide +kernel)) (fun _ _ _ _ _ => (pg_name (i := 6) scIsLoopL.nd rfl (by first | exact Or.inl rfl | exact Or.inr rfl))) (fun _ _ _ _ _ => pts_one (pt_cmpR op_in_seq (pe_ix ix_tup (pv 6) pe_int (fun _ _ => rfl)) (pv 4) (by rfl))) (fun _ _ _ _ _ => (pv 6)))
  (pss_cons (ps_setLc (i := 7) (own := [("_law_line", 6)]) (g := gName 6) (tt := tYes) (te := (tOp (rIxT K) (tVar 6) _)) rfl scIsLoopL.nd rfl rfl (sw_true rfl rfl rfl (by decide +kernel)) (pi_list (pv 5)) (blkOk_by (own := [("_law_line", 6)]) (N := ["_law_some", "_law_row", "_law_v", "_law_w", "_law_near", "_law_onward", "_law_line", "_law_ends"]) (sc := defScope sIsLoop) (by decide +kernel)) (fun _ _ _ _ _ => (pg_name (i := 6) scIsLoopL.nd rfl (by first | exact Or.inl rfl | exact Or.inr rfl))) (fun _ _ _ _ _ => pts_nil) (fun _ _ _ _ _ => (pe_ix ix_tup (pv 6) pe_int (fun _ _ => rfl))))
  (pss_one (ps_ret (pe_and (pe_cmpR op_in_seq (pv 2) (pv 7) (by rfl)) (pe_and (pe_cmpR op_notIn_seq (pe_un un_neg pe_int) (pv 7) (by rfl)) (pe_one (pe_not (pe_hg h_law_turns (hrG.mono (by decide)) rfl (pa_cons (pe_lc (own := [("_law_line", 6)]) (g := gName 6) (tt := (tTest (tOp _ (tOp (rIxT K) (tVar 6) _) (tVar 2)))) (te := (tVar 6)) rfl scIsLoopL.nd (pi_list (pv 5)) (blkOk_by (own := [("_law_line", 6)]) (N := ["_law_some", "_law_row", "_law_v", "_law_w", "_law_near", "_law_onward", "_law_line", "_law_ends"]) (sc := defScope sIsLoop) (by decide +kernel)) (fun _ _ _ _ _ => (pg_name (i := 6) scIsLoopL.nd rfl (by first | exact Or.inl rfl | exact Or.inr rfl))) (fun _ _ _ _ _ => pts_one (pt_cmpR op_ne (pe_ix ix_tup (pv 6) pe_int (fun _ _ => rfl)) (pv 2) (nomark _))) (fun _ _ _ _ _ => (pv 6))) pa_nil))))))))))))), ?_⟩
  rintro Rs q ⟨d, R, r, rfl, hd, hl, hs, hlb, hq⟩
  rw [outF_eq]
  try dsimp only [cxOf, Cx.nox, Cx.wish]
  show ML.ex 0 _ [some (dat K d), some (dat K (rowD r)), none, none, none, none, none, none] _
  k_dat 0 "ml"
  apply x_if
  k_dat 0 "ml"
  refine op_inI [r.1, -1] rfl rd.val (.t .val) ⟨_, rfl, fun h => ?_, fun h => ?_⟩
  · k_dat 0 "ml"
    have h1 : r.2.2 = -1 ∨ r.2.2 = r.1 := by
      have : r.2.2 = r.1 ∨ r.2.2 = -1 := by simpa using h
      exact this.symm
    have e : loopB R r = decide (r.2.2 = r.1) := by
      rw [Bool.eq_iff_iff, loopB_iff, decide_eq_true_eq]
      unfold LoopP
      rw [if_pos h1]
    rw [e] at hq
    exact ⟨_, [], ret_val rfl, hq⟩
  have h1 : ¬ (r.2.2 = -1 ∨ r.2.2 = r.1) := by
    have : ¬ (r.2.2 = r.1 ∨ r.2.2 = -1) := by simpa using h
    exact fun z => this z.symm
  k_dat 0 "ml"
  refine c_zero [_, _, _] ⟨d, R, r.2.2, some r.1, rfl, hd, hl, fun F nd hFl hF => ?_⟩
  k_dat 0 "ml"
  refine ⟨d, _, rfl, hd, ?_⟩
  refine lc_fm R rowD rfl (by omega) (fun e => decide (e.1 ∈ F)) rowD (fun e he => ⟨[6], by decide, ?_⟩) ?_
  · k_dat 0 "ml"
    refine op_inI F rfl rd.val (.l .val) ⟨_, rfl, fun h => ?_, fun h => ⟨h, by k_dat 0 "eq"⟩⟩
    k_dat 0 "ml"
    exact ⟨h, rfl, by k_dat 0 "eq"⟩
  have hL : ∀ e, e ∈ (R.filter fun e => decide (e.1 ∈ F)) ↔ Lv R r.1 r.2.2 e := fun e => by
    rw [List.mem_filter, decide_eq_true_eq, hF]
    rfl
  have hLl : (R.filter fun e => decide (e.1 ∈ F)).length ≤ 76 := Nat.le_trans (List.length_filter_le _ _) hl
  generalize (R.filter fun e => decide (e.1 ∈ F)) = L at hL hLl
  k_dat 0 "ml"
  refine lc_fm L rowD rfl (by omega) (fun _ => true) (fun e => .int e.2.2) (fun e he => ⟨[6], by decide, ?_⟩) ?_
  · k_dat 0 "ml"
    refine ⟨fun _ => ?_, fun h => Bool.noConfusion h⟩
    k_dat 0 "ml"
    exact ⟨rfl, rfl, by k_dat 0 "eq"⟩
  have hT : ∀ x, x ∈ L.map (·.2.2) ↔ ∃ e, Lv R r.1 r.2.2 e ∧ e.2.2 = x := fun x => by
    rw [List.mem_map]
    exact ⟨fun ⟨e, h1, h2⟩ => ⟨e, (hL e).mp h1, h2⟩, fun ⟨e, h1, h2⟩ => ⟨e, (hL e).mpr h1, h2⟩⟩
  have eT : (L.filter fun _ => true).map (fun e => PyData.int e.2.2) = (L.map (·.2.2)).map PyData.int := by
    rw [List.filter_eq_self.mpr fun _ _ => rfl, List.map_map]
    rfl
  have no : ∀ {b : Bool}, b = false → ¬ LoopP R r → q (dat K (.bool b)) [] := fun {b} hb hn => by
    have e : loopB R r = b := by
      rw [hb, Bool.eq_false_iff]
      exact fun z => hn (loopB_iff.mp z)
    rw [← e]
    exact hq
  k_dat 0 "ml"
  refine op_inI _ eT rd.val (.l (.slotL rfl)) ⟨_, rfl, fun h => ?_, fun h => ?_⟩
  · have h2 : r.1 ∈ L.map (·.2.2) := of_decide_eq_true h
    k_dat 0 "ml"
    refine op_ninI _ eT rd.val (.l (.slotL rfl)) ⟨_, rfl, fun h => ?_, fun h => ?_⟩
    · have h3 : ¬ (-1 : Int) ∈ L.map (·.2.2) := by simpa using h
      k_dat 0 "ml"
      refine lc_fm L rowD rfl (by omega) (fun e => !decide (e.2.2 = r.1)) rowD (fun e he => ⟨[6], by decide, ?_⟩) ?_
      · k_dat 0 "ml"
        refine ⟨fun h => ?_, fun h => ⟨h, by k_dat 0 "eq"⟩⟩
        k_dat 0 "ml"
        exact ⟨h, rfl, by k_dat 0 "eq"⟩
      k_dat 0 "ml"
      have hLR : ∀ e ∈ L.filter (fun e => !decide (e.2.2 = r.1)), e ∈ R := fun e he => ((hL e).mp (List.mem_filter.mp he).1).1
      refine c_zero [_] ⟨_, rfl, Nat.le_trans (List.length_filter_le _ _) hLl, fun e he => hs e (hLR e he), fun e he => hlb e (hLR e he), fun b hb => ?_⟩
      k_dat 0 "ml"
      refine ⟨_, [], ret_val rfl, ?_⟩
      have hml : ∀ e, e ∈ L.filter (fun e => !decide (e.2.2 = r.1)) ↔ Lv R r.1 r.2.2 e ∧ e.2.2 ≠ r.1 := fun e => by
        rw [List.mem_filter, hL]
        simp
      have e : loopB R r = !b := by
        rw [Bool.eq_iff_iff, loopB_iff]
        unfold LoopP
        rw [if_neg h1]
        constructor
        · rintro ⟨_, _, z⟩
          cases hbb : b with
          | false => rfl
          | true => exact absurd (hb.mp hbb) (z _ hml)
        · intro hnb
          refine ⟨(hT _).mp h2, fun z => h3 ((hT _).mpr z), fun l hl hc => ?_⟩
          have : b = true := hb.mpr ((Cyc.congr (edges_in fun r' => (hl r').trans (hml r').symm)).mp hc)
          rw [this] at hnb
          cases hnb
      rw [← e]
      exact hq
    · k_dat 0 "ml"
      refine ⟨_, [], ret_val rfl, no rfl fun z => ?_⟩
      unfold LoopP at z
      rw [if_neg h1] at z
      have h3 : (-1 : Int) ∈ L.map (·.2.2) := by simpa using h
      exact z.2.1 ((hT _).mp h3)
  · k_dat 0 "ml"
    refine ⟨_, [], ret_val rfl, no rfl fun z => ?_⟩
    unfold LoopP at z
    rw [if_neg h1] at z
    exact of_decide_eq_false h ((hT _).mpr z.1)
def afterM (K : PySem.W.Frag) : MSp := fun Rs q => ∃ (R : List Row) (r : Row), Rs = [dat K (.list (R.map rowD)), dat K (rowD r)] ∧ R.length ≤ 76 ∧ (∀ x ∈ R, Lbl x) ∧ Lbl r ∧ q (dat K (.list ((aft R r).map rowD))) []
abbrev S_law_after (K : PySem.W.Frag) : Sp := spOf 0 (afterM K)
theorem scAfter : FnScope ["_law_some", "_law_gone", "_law_kept", "_law_row", "_law_near"] ["_law_some", "_law_gone"] (defScope sAfter) := ⟨rfl, rfl, rfl, by decide +kernel, rfl, by decide +kernel, by decide +kernel⟩
theorem ok_after {f : Addr} {fd : FuncData} (G : Fun K "_law_after" "_law_after" sAfter f fd) (T : Blt mg) (h_law_seen : HasM P w K mg base "_law_seen" 1 ["_law_some", "_law_first", "_law_shut"] (S_law_seen K)) : FnG P w K mg base CX0 2 f fd ["_law_some", "_law_gone"] (S_law_after K) := by
  refine fn_ml G scAfter (fun Rs q ⟨_, _, h, _⟩ => by rw [h]; rfl) (by decide) fun cdv A outer s H E hrG => ?_
  have hr := hrG.room
  have hu := hu_of hr
  have hu64 := hr.units
  refine ⟨_, (pss_cons (ps_setLc (i := 2) (own := [("_law_row", 3)]) (g := gName 3) (tt := (tTest (tOp (rNeD K) (tVar 3) (tVar 1)))) (te := (tVar 3)) rfl scAfter.nd rfl rfl (sw_true rfl rfl rfl (by decide +kernel)) (pi_list (pv 0)) (blkOk_by (own := [("_law_row", 3)]) (N := ["_law_some", "_law_gone", "_law_kept", "_law_row", "_law_near"]) (sc := defScope sAfter) (by decide +kernel)) (fun _ _ _ _ _ => (pg_name (i := 3) scAfter.nd rfl (by first | exact Or.inl rfl | exact Or.inr rfl))) (fun _ _ _ _ _ => pts_one (pt_cmpR (op_neD hu64) (pv 3) (pv 1) (nomark _))) (fun _ _ _ _ _ => (pv 3)))
  (pss_cons (ps_set (i := 4) scAfter.nd rfl (Or.inr rfl) (pe_hg h_law_seen (hrG.mono (by decide)) rfl (pa_cons (pv 2) (pa_cons pe_int (pa_cons pe_non pa_nil)))))
  (pss_one (ps_ret (pe_lc (own := [("_law_row", 3)]) (g := gName 3) (tt := (tTest (tOp (rIn K false) (tOp (rIxT K) (tVar 3) _) (tVar 4)))) (te := (tVar 3)) rfl scAfter.nd (pi_list (pv 2)) (blkOk_by (own := [("_law_row", 3)]) (N := ["_law_some", "_law_gone", "_law_kept", "_law_row", "_law_near"]) (sc := defScope sAfter) (by decide +kernel)) (fun _ _ _ _ _ => (pg_name (i := 3) scAfter.nd rfl (by first | exact Or.inl rfl | exact Or.inr rfl))) (fun _ _ _ _ _ => pts_one (pt_cmpR op_in_seq (pe_ix ix_tup (pv 3) pe_int (fun _ _ => rfl)) (pv 4) (by rfl))) (fun _ _ _ _ _ => (pv 3))))))), ?_⟩
  rintro Rs q ⟨R, r, rfl, hl, hlb, hr', hq⟩
  rw [outF_eq]
  try dsimp only [cxOf, Cx.nox, Cx.wish]
  show ML.ex 0 _ [some (dat K (.list (R.map rowD))), some (dat K (rowD r)), none, none, none] _
  k_dat 0 "ml"
  refine lc_fm R rowD rfl (by omega) (fun e => decide (e ≠ r)) rowD (fun e he => ⟨[3], by decide, ?_⟩) ?_
  · k_dat 0 "ml"
    refine op_dne rd.val rd.val (shaped_row (hlb e he)) (shaped_row hr') ⟨_, rfl, ?_⟩
    rw [eqv_row]
    refine ⟨fun h => ?_, fun h => ⟨by simpa using h, by k_dat 0 "eq"⟩⟩
    k_dat 0 "ml"
    exact ⟨by simpa using h, rfl, by k_dat 0 "eq"⟩
  have hbl : (butR R r).length ≤ 76 := Nat.le_trans (List.length_filter_le _ _) hl
  show tg _ _ (.val (ML.lo K ((butR R r).map rowD))) _ _
  k_dat 0 "ml"
  refine c_zero [_, _, _] ⟨_, butR R r, 0, none, rfl, .inl rfl, hbl, fun F nd hFl hF => ?_⟩
  k_dat 0 "ml"
  refine lc_fm (butR R r) rowD rfl (by omega) (fun e => decide (e.1 ∈ F)) rowD (fun e he => ⟨[3], by decide, ?_⟩) ?_
  · k_dat 0 "ml"
    refine op_inI F rfl rd.val (.l .val) ⟨_, rfl, fun h => ?_, fun h => ⟨h, by k_dat 0 "eq"⟩⟩
    k_dat 0 "ml"
    exact ⟨h, rfl, by k_dat 0 "eq"⟩
  have eL : ((butR R r).filter fun e => decide (e.1 ∈ F)) = aft R r := List.filter_congr fun e _ => by
    rw [Bool.eq_iff_iff, decide_eq_true_eq, rchB_iff]
    exact hF e.1
  rw [eL]
  k_dat 0 "ml"
  exact ⟨_, [], ret_dat .own rfl, hq⟩
end
end K24

/-! The law's _law_in_turn. -/
namespace K24
open PySem L2 KS GL LB K24m ML
open CH (outs sucs)
open PySem.Spec hiding Row
open PyProof.Rows hiding cnt
theorem atI_last {α : Type} (xs : List α) (x : α) : atI (xs ++ [x]) (-1) = some x := by
  unfold atI ixN
  simp
  rw [if_pos (by omega)]
  have e : (-1 + ((xs.length : Int) + 1)).toNat = xs.length := by omega
  rw [e, Option.bind_some, List.getElem?_append_right (Nat.le_refl _), Nat.sub_self]
  rfl
section
variable {P : Program} {w : World} {K : PySem.W.Frag} {mg : Str → Option Value} {base : Heap}
set_option hygiene false
local macro_rules | `(tactic| k_dat 0 "rd") => `(tactic| first | with_reducible apply rd.val | with_reducible apply rd.own | (apply rd.slot; apply Eq.refl) | (apply rd.slotL; apply Eq.refl))
local macro_rules | `(tactic| k_dat 0 "rdS") => `(tactic| first | with_reducible (apply rdS.l; apply rd.val) | with_reducible (apply rdS.t; apply rd.val) | with_reducible (apply rdS.l; apply rd.own) | (apply rdS.l; apply rd.slotL; apply Eq.refl) | (apply rdS.l; apply rd.slot; apply Eq.refl) | (apply rdS.t; apply rd.slot; apply Eq.refl))
local macro_rules | `(tactic| k_dat 0 "rdD") => `(tactic| first | with_reducible apply rdD.val | with_reducible apply rdD.own | (apply rdD.slot; apply Eq.refl) | (apply rdD.slotP; apply Eq.refl))
local macro_rules | `(tactic| k_dat 0 "sc") => `(tactic| first | apply Sc.int | apply Sc.bl | apply Sc.str | apply Sc.non)
local macro_rules | `(tactic| k_dat 0 "asD") => `(tactic| first | with_reducible apply asD.val | with_reducible apply asD.own | (apply asD.slot; apply Eq.refl))
local macro_rules | `(tactic| k_dat 0 "asX") => `(tactic| first | with_reducible apply asX.pure | with_reducible apply asX.own | (apply asX.slot; apply Eq.refl) | with_reducible apply asX.keep)
local macro_rules | `(tactic| k_dat 0 "nf") => `(tactic| first | (conv => arg 3; dsimp only [wipeM, List.set, List.map]) | skip)
local macro_rules | `(tactic| k_dat 0 "eq") => `(tactic| first | (dsimp only [wipeM, List.set, List.map]; done) | (dsimp only [wipeM, List.set, List.map]; apply Eq.refl) | apply Eq.refl)
local macro_rules | `(tactic| k_dat 0 "st") => `(tactic| first
  | ((with_reducible apply x_seq); k_dat 0 "nf") | ((with_reducible apply x_parT2); (case hi => omega); (case hj => omega)) | ((with_reducible apply x_asg2); (case hi => omega); (case hj => omega)) | ((with_reducible apply x_asg3); (case hi => omega); (case hj => omega); (case hl => omega)) | ((with_reducible apply x_par4); (case hi => omega); (case hj => omega); (case hk => omega); (case hl => omega)) | ((with_reducible apply x_par2); (case hij => omega); (case hi => omega); (case hj => omega)) | with_reducible first | (apply x_asg; case hl => decide) | apply x_drop | apply x_ret | apply x_next | apply x_break | apply x_cont
  | apply x_dput (K := K) | apply x_putN (K := K) | apply x_retN)
local macro_rules | `(tactic| k_dat 0 "ex") => `(tactic| with_reducible first
  | apply ev_int (K := K) | apply ev_str (K := K) | apply ev_bl (K := K) | apply ev_non (K := K)
  | apply ev_tup (K := K) | apply ev_lst (K := K) | apply ev_op | apply ev_un | apply ev_sset_rows (K := K) | apply ev_sset_ints (K := K) | apply ev_cb1 | apply ev_cb2 | apply ev_andV (K := K) | apply ev_orV (K := K) | apply ev_notV (K := K) | apply ev_if
  | apply ev_sl | apply evO_none | apply evO_some (K := K) | apply ev_rev | apply ev_bm1 | apply ev_bm0 | apply ev_dnew (K := K) | apply ev_disp (K := K) | apply ev_dget1 (K := K) | apply ev_dget2 (K := K) | apply ev_dinI (K := K) | apply ev_dninI (K := K) | apply ev_chainI (K := K)
  | apply ev_call | apply ev_call1
  | apply evD_nil | apply evD_cons | apply evA_nil | apply evA_x (K := K) | apply evPs_nil | apply evPs_cons
  | apply ev_dispN (K := K) | apply evPsN_nil | apply evPsN_cons | apply ev_ninN (K := K) | apply ev_ninR (K := K) | apply ev_dcR (K := K)
  | apply evT_val (K := K) | apply evT_B (K := K) | apply evT_and | apply evT_or | apply evT_not | apply evT_yes)
local macro_rules | `(tactic| k_dat 0 "vr") => `(tactic| first
  | ((with_reducible apply ev_var); (case h => apply Eq.refl)) | ((with_reducible apply ev_at); (case h => apply Eq.refl))
  | ((with_reducible apply x_augI); (case hi => decide); (case h0 => apply Eq.refl)))
local macro_rules | `(tactic| k_dat 0 "tg") => `(tactic| first
  | (with_reducible apply tg_name) | ((with_reducible apply tg_move); (case h => apply Eq.refl)) | ((with_reducible apply tg_tup); (case hn => rfl)) | (with_reducible apply tg_row) | (with_reducible apply tgs_nil) | (with_reducible apply tgs_consN))
local macro_rules | `(tactic| k_dat 0 "len") => `(tactic| ((first | apply lt_line | apply le_line); (try simp only [List.length_map, List.length_append, List.length_cons, List.length_nil, List.length_range]); omega))
local macro_rules | `(tactic| k_dat 0 "op") => `(tactic| first
  | ((with_reducible apply op_i0 (K := K)); (case h1 => k_dat 0 "rd"); (case h2 => k_dat 0 "rd"); (case hd => k_dat 0 "sc"))
  | ((with_reducible apply op_eqI (K := K)); (case h1 => k_dat 0 "rd"); (case h2 => k_dat 0 "rd")) | ((with_reducible apply op_neI (K := K)); (case h1 => k_dat 0 "rd"); (case h2 => k_dat 0 "rd"))
  | ((with_reducible apply op_eqS (K := K)); (case h1 => k_dat 0 "rd"); (case h2 => k_dat 0 "rd")) | ((with_reducible apply op_neS (K := K)); (case h1 => k_dat 0 "rd"); (case h2 => k_dat 0 "rd"))
  | ((with_reducible apply op_ixR0 (K := K)); (case h1 => k_dat 0 "rd"); (case h2 => k_dat 0 "rd")) | ((with_reducible apply op_ixR1 (K := K)); (case h1 => k_dat 0 "rd"); (case h2 => k_dat 0 "rd")) | ((with_reducible apply op_ixR2 (K := K)); (case h1 => k_dat 0 "rd"); (case h2 => k_dat 0 "rd"))
  | ((with_reducible apply un_i (K := K)); (case h1 => k_dat 0 "rd"); (case hd => k_dat 0 "sc"))
  | ((with_reducible apply un_len (K := K)); (case h => k_dat 0 "rdS")) | ((with_reducible apply un_list (K := K)); (case h => k_dat 0 "rdS")) | ((with_reducible apply un_tuple (K := K)); (case h => first | (apply rdS.l; k_dat 0 "rd") | (apply rdS.t; k_dat 0 "rd")))
  | ((with_reducible apply un_int (K := K)); (case h => k_dat 0 "rd")) | ((with_reducible apply un_lenD (K := K)); (case h => k_dat 0 "rdD")) | ((with_reducible apply un_listK (K := K)); (case h => k_dat 0 "rdD"))
  | ((with_reducible apply op_append (K := K)); (case hd => k_dat 0 "asD"); (case e => apply Eq.refl); (case hl => k_dat 0 "len"))
  | ((with_reducible apply op_cat_ (K := K)); (case h1 => k_dat 0 "rd"); (case h2 => k_dat 0 "rd"); (case hl => k_dat 0 "len"))
  | ((with_reducible apply op_max2 (K := K)); (case h1 => k_dat 0 "rd"); (case h2 => k_dat 0 "rd")) | ((with_reducible apply op_min2 (K := K)); (case h1 => k_dat 0 "rd"); (case h2 => k_dat 0 "rd"))
  | ((with_reducible apply sl_list_ (K := K)); (case h1 => k_dat 0 "rd")) | ((with_reducible apply sl_tup_ (K := K)); (case h1 => k_dat 0 "rd")))
local macro_rules | `(tactic| k_dat 0 "sp") => `(tactic| first
  | ((with_reducible (apply Exists.intro; apply And.intro)); (case left => with_reducible apply Eq.refl))
  | ((with_reducible (apply Exists.intro; apply And.intro)); (case left => first | k_dat 0 "rd" | k_dat 0 "rdD"))
  | ((with_reducible apply And.intro); (case left => (with_reducible apply Exists.intro); k_dat 0 "rdD"))
  | ((with_reducible (apply Exists.intro; apply Exists.intro; apply And.intro)); (case left => first | k_dat 0 "asD" | k_dat 0 "asX"))
  | ((with_reducible apply And.intro); (case left => apply len_le; apply Eq.refl))
  | ((with_reducible (apply Exists.intro (Sum.inl _); apply And.intro)); (case left => apply Eq.refl)) | ((with_reducible (apply Exists.intro (Sum.inr _); apply And.intro)); (case left => apply Eq.refl)))
local macro_rules | `(tactic| k_dat 0 "wk") => `(tactic| with_reducible first | apply x_forD (K := K) | apply x_lc (K := K) | apply wkD_list | apply wkD_tup | apply wkD_seq | apply wkD_rng1 | apply wkD_rng2 | apply wkD_str)
local macro_rules | `(tactic| k_dat 0 "ml1") => `(tactic| first | k_dat 0 "st" | k_dat 0 "ex" | k_dat 0 "wk" | k_dat 0 "vr" | k_dat 0 "tg" | k_dat 0 "op" | k_dat 0 "sp")
local macro_rules | `(tactic| k_dat 0 "ml") => `(tactic| repeat k_dat 0 "ml1")
abbrev S_law_pick (K : PySem.W.Frag) : Sp := spOf 1 (pickM K)
def inTurnM (K : PySem.W.Frag) : MSp := fun Rs q => ∃ (n : Nat) (R : List Row), Rs = [deck n, dat K (.tuple (R.map rowD))] ∧ n < 2 ^ 39 ∧ R.length ≤ 76 ∧ (∀ x ∈ R, x.1 ≠ -1) ∧ (∀ x ∈ R, Lbl x) ∧
  ∀ (m : Nat) (gs T : List Row), m ≤ n + 76 → Rem R gs T → Done T → gs.length ≤ R.length → q (dat K (.tuple [.tuple (gs.map rowD), .list (T.map rowD)])) [deck m]
theorem scInTurn : FnScope ["_law_deck_here", "_law_some", "_law_left", "_law_found", "_law_loops", "_law_row"] ["_law_deck_here", "_law_some"] (defScope sInTurn) := ⟨rfl, rfl, rfl, by decide +kernel, rfl, by decide +kernel, by decide +kernel⟩
theorem ok_in_turn {f : Addr} {fd : FuncData} (G : Fun K "_law_in_turn" "_law_in_turn" sInTurn f fd) (T : Blt mg) (h_law_pick : HasM P w K mg base "_law_pick" 2 ["_law_deck_here", "_law_some"] (S_law_pick K)) (h_law_is_loop : HasM P w K mg base "_law_is_loop" 2 ["_law_some", "_law_row"] (S_law_is_loop K))
    (h_law_after : HasM P w K mg base "_law_after" 2 ["_law_some", "_law_gone"] (S_law_after K)) : FnG P w K mg base CX0 3 f fd ["_law_deck_here", "_law_some"] (spOf 1 (inTurnM K)) := by
  refine fn_ml G scInTurn (fun Rs q ⟨_, _, h, _⟩ => by rw [h]; rfl) (by decide) fun cdv A outer s H E hrG => ?_
  have hr := hrG.room
  have hu := hu_of hr
  have hu64 := hr.units
  refine ⟨_, (pss_cons (ps_asg (pe_tup (pa_cons (pe_callTy call_listQ (by rfl) T.b_list (by decide +kernel) (pa_cons (pv 1) pa_nil)) (pa_cons (pe_lst pa_nil) pa_nil))) (pg_tup (n := 2) rfl (pgs_cons (pg_name (i := 2) scInTurn.nd rfl (Or.inr rfl)) (pgs_cons (pg_name (i := 3) scInTurn.nd rfl (Or.inl rfl)) pgs_nil))))
  (pss_cons (ps_setLc (i := 4) (own := [("_law_row", 5)]) (g := gName 5) (tt := (tB (tCall (S_law_is_loop K) [] E0 (tCons (tVar 2) (tCons (tVar 5) tNil))))) (te := (tVar 5)) rfl scInTurn.nd rfl rfl (sw_true rfl rfl rfl (by decide +kernel)) (pi_list (pv 2)) (blkOk_by (own := [("_law_row", 5)]) (N := ["_law_deck_here", "_law_some", "_law_left", "_law_found", "_law_loops", "_law_row"]) (sc := defScope sInTurn) (by decide +kernel)) (fun _ _ _ _ _ => (pg_name (i := 5) scInTurn.nd rfl (by first | exact Or.inl rfl | exact Or.inr rfl))) (fun _ _ _ _ _ => pts_one (pt_val (pe_hg h_law_is_loop (hrG.mono (by decide)) rfl (pa_cons (pv 2) (pa_cons (pv 5) pa_nil))))) (fun _ _ _ _ _ => (pv 5)))
  (pss_cons (ps_while PassesOwn.never (pt_cmpR (op_neD hu64) (pv 4) (pe_lst pa_nil) (nomark _))
    (pss_cons (ps_expr (pe_bm PySem.F.plainAttrs_list PySem.F.slot_list_append PySem.F.type_list_append mt_append (pv 3) (pa_cons (pe_hg h_law_pick (hrG.mono (by decide)) rfl (pa_cons (pv 0) (pa_cons (pv 4) pa_nil))) pa_nil)))
  (pss_cons (ps_set (i := 2) scInTurn.nd rfl (Or.inr rfl) (pe_hg h_law_after (hrG.mono (by decide)) rfl (pa_cons (pv 2) (pa_cons (pe_ix ix_list (pv 3) (pe_un un_neg pe_int) (fun _ _ => rfl)) pa_nil))))
  (pss_one (ps_setLc (i := 4) (own := [("_law_row", 5)]) (g := gName 5) (tt := (tB (tCall (S_law_is_loop K) [] E0 (tCons (tVar 2) (tCons (tVar 5) tNil))))) (te := (tVar 5)) rfl scInTurn.nd rfl rfl (sw_true rfl rfl rfl (by decide +kernel)) (pi_list (pv 2)) (blkOk_by (own := [("_law_row", 5)]) (N := ["_law_deck_here", "_law_some", "_law_left", "_law_found", "_law_loops", "_law_row"]) (sc := defScope sInTurn) (by decide +kernel)) (fun _ _ _ _ _ => (pg_name (i := 5) scInTurn.nd rfl (by first | exact Or.inl rfl | exact Or.inr rfl))) (fun _ _ _ _ _ => pts_one (pt_val (pe_hg h_law_is_loop (hrG.mono (by decide)) rfl (pa_cons (pv 2) (pa_cons (pv 5) pa_nil))))) (fun _ _ _ _ _ => (pv 5)))))))
  (pss_one (ps_ret (pe_tup (pa_cons (pe_callTy call_tupQ (by rfl) T.b_tuple (by decide +kernel) (pa_cons (pv 3) pa_nil)) (pa_cons (pv 2) pa_nil)))))))), ?_⟩
  rintro Rs q ⟨n, R, rfl, hn, hl, hs, hlb, hq⟩
  rw [outF_eq]
  try dsimp only [cxOf, Cx.nox, Cx.wish]
  show ML.ex 1 _ [some (deck n), some (dat K (.tuple (R.map rowD))), none, none, none, none] _
  k_dat 0 "ml"
  refine lc_fm R rowD rfl (by omega) (fun r => loopB R r) rowD (fun r hr => ⟨[5], by decide, ?_⟩) ?_
  · k_dat 0 "ml"
    refine c_zero [_, _] ⟨_, R, r, rfl, .inl rfl, hl, hs, hlb, ?_⟩
    k_dat 0 "ml"
    refine ⟨fun h => ?_, fun h => ⟨h, by k_dat 0 "eq"⟩⟩
    k_dat 0 "ml"
    exact ⟨h, rfl, by k_dat 0 "eq"⟩
  k_dat 0 "ml"
  refine x_while (fun k ρ' => ∃ (m : Nat) (gs L : List Row), ρ' = [some (deck m), some (dat K (.tuple (R.map rowD))), some (dat K (.list (L.map rowD))), some (ML.lo K (gs.map rowD)), some (ML.lo K ((L.filter fun r => loopB L r).map rowD)), none] ∧
      k = L.length ∧ Rem R gs L ∧ gs.length + L.length ≤ R.length ∧ m ≤ n + gs.length) ⟨_, n, [], R, by k_dat 0 "eq", rfl, .nil, by simp, Nat.le_refl _⟩ ?_
  rintro k ρ' ⟨m, gs, L, rfl, rfl, hrem, hgl, hm⟩
  have hLR : ∀ e ∈ L, e ∈ R := fun e he => hrem.sub.subset he
  k_dat 0 "ml"
  refine op_dne (.slotL rfl) rd.own (shaped_rowsL fun e he => hlb e (hLR e (List.mem_filter.mp he).1)) shaped_nil ⟨_, rfl, ?_⟩
  rw [eqv_list_nil]
  refine ⟨fun h => ?_, fun h => ?_⟩
  · have hne : (L.filter fun r => loopB L r) ≠ [] := fun e => by rw [e] at h; cases h
    k_dat 0 "ml"
    have hfl : (L.filter fun r => loopB L r).length ≤ L.length := List.length_filter_le _ _
    refine c_pickL rfl (by rw [List.length_map]; exact List.length_pos_iff.mpr hne) (by rw [List.length_map]; omega) (by omega) fun d hd => ?_
    obtain ⟨r, hr, rfl⟩ := List.mem_map.mp hd
    obtain ⟨hr1, hr2⟩ := List.mem_filter.mp hr
    have hr2 := loopB_iff.mp hr2
    have hal := aft_len hr1
    have eg : gs.map rowD ++ [rowD r] = (gs ++ [r]).map rowD := by
      rw [List.map_append]
      rfl
    k_dat 0 "ml"
    refine op_ixL (.slotL rfl) rd.val (atI_last _ _) ?_
    k_dat 0 "ml"
    refine c_zero [_, _] ⟨L, r, rfl, by omega, fun e he => hlb e (hLR e he), hlb r (hLR r hr1), ?_⟩
    have hAR : ∀ e ∈ aft L r, e ∈ R := fun e he => hLR e (aft_mem he)
    k_dat 0 "ml"
    refine lc_fm (aft L r) rowD rfl (by omega) (fun e => loopB (aft L r) e) rowD (fun e he => ⟨[5], by decide, ?_⟩) ?_
    · k_dat 0 "ml"
      refine c_zero [_, _] ⟨_, aft L r, e, rfl, .inl rfl, by omega, fun x hx => hs x (hAR x hx), fun x hx => hlb x (hAR x hx), ?_⟩
      k_dat 0 "ml"
      refine ⟨fun h => ?_, fun h => ⟨h, by k_dat 0 "eq"⟩⟩
      k_dat 0 "ml"
      exact ⟨h, rfl, by k_dat 0 "eq"⟩
    k_dat 0 "ml"
    refine ⟨_, hal, m + 1, gs ++ [r], aft L r, ?_, rfl, hrem.snoc hr1 hr2, by rw [List.length_append, List.length_singleton]; omega, by rw [List.length_append, List.length_singleton]; omega⟩
    rw [← eg]
    k_dat 0 "eq"
  · have he : (L.filter fun r => loopB L r) = [] := by
      cases e : (L.filter fun r => loopB L r) with
      | nil => rfl
      | cons a b => rw [e] at h; cases h
    k_dat 0 "ml"
    exact ⟨_, _, ret_val rfl, hq m gs L (by omega) hrem (fun r hr z => List.filter_eq_nil_iff.mp he r hr (loopB_iff.mpr z)) (by omega)⟩
end
end K24

namespace K24
open PySem L2 KS GL LB K24m ML
open CH (outs sucs labelB arrowB ChartOk)
open PySem.Spec hiding Row
open PyProof.Rows hiding cnt
section
variable {P : Program} {w : World} {K : PySem.W.Frag} {mg : Str → Option Value} {base : Heap}
set_option hygiene false
local macro_rules | `(tactic| k_dat 0 "rd") => `(tactic| first | with_reducible apply rd.val | with_reducible apply rd.own | (apply rd.slot; apply Eq.refl) | (apply rd.slotL; apply Eq.refl))
local macro_rules | `(tactic| k_dat 0 "rdS") => `(tactic| first | with_reducible (apply rdS.l; apply rd.val) | with_reducible (apply rdS.t; apply rd.val) | with_reducible (apply rdS.l; apply rd.own) | (apply rdS.l; apply rd.slotL; apply Eq.refl) | (apply rdS.l; apply rd.slot; apply Eq.refl) | (apply rdS.t; apply rd.slot; apply Eq.refl))
local macro_rules | `(tactic| k_dat 0 "rdD") => `(tactic| first | with_reducible apply rdD.val | with_reducible apply rdD.own | (apply rdD.slot; apply Eq.refl) | (apply rdD.slotP; apply Eq.refl))
local macro_rules | `(tactic| k_dat 0 "sc") => `(tactic| first | apply Sc.int | apply Sc.bl | apply Sc.str | apply Sc.non)
local macro_rules | `(tactic| k_dat 0 "asD") => `(tactic| first | with_reducible apply asD.val | with_reducible apply asD.own | (apply asD.slot; apply Eq.refl))
local macro_rules | `(tactic| k_dat 0 "asX") => `(tactic| first | with_reducible apply asX.pure | with_reducible apply asX.own | (apply asX.slot; apply Eq.refl) | with_reducible apply asX.keep)
local macro_rules | `(tactic| k_dat 0 "nf") => `(tactic| first | (conv => arg 3; dsimp only [wipeM, List.set, List.map]) | skip)
local macro_rules | `(tactic| k_dat 0 "eq") => `(tactic| first | (dsimp only [wipeM, List.set, List.map]; done) | (dsimp only [wipeM, List.set, List.map]; apply Eq.refl) | apply Eq.refl)
local macro_rules | `(tactic| k_dat 0 "st") => `(tactic| first
  | ((with_reducible apply x_seq); k_dat 0 "nf") | ((with_reducible apply x_parT2); (case hi => omega); (case hj => omega)) | ((with_reducible apply x_asg2); (case hi => omega); (case hj => omega)) | ((with_reducible apply x_asg3); (case hi => omega); (case hj => omega); (case hl => omega)) | ((with_reducible apply x_par4); (case hi => omega); (case hj => omega); (case hk => omega); (case hl => omega)) | ((with_reducible apply x_par2); (case hij => omega); (case hi => omega); (case hj => omega)) | with_reducible first | (apply x_asg; case hl => decide) | apply x_drop | apply x_ret | apply x_next | apply x_break | apply x_cont
  | apply x_dput (K := K) | apply x_putN (K := K) | apply x_retN)
local macro_rules | `(tactic| k_dat 0 "ex") => `(tactic| with_reducible first
  | apply ev_int (K := K) | apply ev_str (K := K) | apply ev_bl (K := K) | apply ev_non (K := K)
  | apply ev_tup (K := K) | apply ev_lst (K := K) | apply ev_op | apply ev_un | apply ev_sset_rows (K := K) | apply ev_sset_ints (K := K) | apply ev_cb1 | apply ev_cb2 | apply ev_andV (K := K) | apply ev_orV (K := K) | apply ev_notV (K := K) | apply ev_if
  | apply ev_sl | apply evO_none | apply evO_some (K := K) | apply ev_rev | apply ev_bm1 | apply ev_bm0 | apply ev_dnew (K := K) | apply ev_disp (K := K) | apply ev_dget1 (K := K) | apply ev_dget2 (K := K) | apply ev_dinI (K := K) | apply ev_dninI (K := K) | apply ev_chainI (K := K)
  | apply ev_call | apply ev_call1
  | apply evD_nil | apply evD_cons | apply evA_nil | apply evA_x (K := K) | apply evPs_nil | apply evPs_cons
  | apply ev_dispN (K := K) | apply evPsN_nil | apply evPsN_cons | apply ev_ninN (K := K) | apply ev_ninR (K := K) | apply ev_dcR (K := K)
  | apply evT_val (K := K) | apply evT_B (K := K) | apply evT_and | apply evT_or | apply evT_not | apply evT_yes)
local macro_rules | `(tactic| k_dat 0 "vr") => `(tactic| first
  | ((with_reducible apply ev_var); (case h => apply Eq.refl)) | ((with_reducible apply ev_at); (case h => apply Eq.refl))
  | ((with_reducible apply x_augI); (case hi => decide); (case h0 => apply Eq.refl)))
local macro_rules | `(tactic| k_dat 0 "tg") => `(tactic| first
  | (with_reducible apply tg_name) | ((with_reducible apply tg_move); (case h => apply Eq.refl)) | ((with_reducible apply tg_tup); (case hn => rfl)) | (with_reducible apply tg_row) | (with_reducible apply tgs_nil) | (with_reducible apply tgs_consN))
local macro_rules | `(tactic| k_dat 0 "len") => `(tactic| ((first | apply lt_line | apply le_line); (try simp only [List.length_map, List.length_append, List.length_cons, List.length_nil, List.length_range]); omega))
local macro_rules | `(tactic| k_dat 0 "op") => `(tactic| first
  | ((with_reducible apply op_i0 (K := K)); (case h1 => k_dat 0 "rd"); (case h2 => k_dat 0 "rd"); (case hd => k_dat 0 "sc"))
  | ((with_reducible apply op_eqI (K := K)); (case h1 => k_dat 0 "rd"); (case h2 => k_dat 0 "rd")) | ((with_reducible apply op_neI (K := K)); (case h1 => k_dat 0 "rd"); (case h2 => k_dat 0 "rd"))
  | ((with_reducible apply op_eqS (K := K)); (case h1 => k_dat 0 "rd"); (case h2 => k_dat 0 "rd")) | ((with_reducible apply op_neS (K := K)); (case h1 => k_dat 0 "rd"); (case h2 => k_dat 0 "rd"))
  | ((with_reducible apply op_ixR0 (K := K)); (case h1 => k_dat 0 "rd"); (case h2 => k_dat 0 "rd")) | ((with_reducible apply op_ixR1 (K := K)); (case h1 => k_dat 0 "rd"); (case h2 => k_dat 0 "rd")) | ((with_reducible apply op_ixR2 (K := K)); (case h1 => k_dat 0 "rd"); (case h2 => k_dat 0 "rd"))
  | ((with_reducible apply un_i (K := K)); (case h1 => k_dat 0 "rd"); (case hd => k_dat 0 "sc"))
  | ((with_reducible apply un_len (K := K)); (case h => k_dat 0 "rdS")) | ((with_reducible apply un_list (K := K)); (case h => k_dat 0 "rdS")) | ((with_reducible apply un_tuple (K := K)); (case h => first | (apply rdS.l; k_dat 0 "rd") | (apply rdS.t; k_dat 0 "rd")))
  | ((with_reducible apply un_int (K := K)); (case h => k_dat 0 "rd")) | ((with_reducible apply un_lenD (K := K)); (case h => k_dat 0 "rdD")) | ((with_reducible apply un_listK (K := K)); (case h => k_dat 0 "rdD"))
  | ((with_reducible apply op_append (K := K)); (case hd => k_dat 0 "asD"); (case e => apply Eq.refl); (case hl => k_dat 0 "len"))
  | ((with_reducible apply op_cat_ (K := K)); (case h1 => k_dat 0 "rd"); (case h2 => k_dat 0 "rd"); (case hl => k_dat 0 "len"))
  | ((with_reducible apply op_max2 (K := K)); (case h1 => k_dat 0 "rd"); (case h2 => k_dat 0 "rd")) | ((with_reducible apply op_min2 (K := K)); (case h1 => k_dat 0 "rd"); (case h2 => k_dat 0 "rd"))
  | ((with_reducible apply sl_list_ (K := K)); (case h1 => k_dat 0 "rd")) | ((with_reducible apply sl_tup_ (K := K)); (case h1 => k_dat 0 "rd")))
local macro_rules | `(tactic| k_dat 0 "sp") => `(tactic| first
  | ((with_reducible (apply Exists.intro; apply And.intro)); (case left => with_reducible apply Eq.refl))
  | ((with_reducible (apply Exists.intro; apply And.intro)); (case left => first | k_dat 0 "rd" | k_dat 0 "rdD"))
  | ((with_reducible apply And.intro); (case left => (with_reducible apply Exists.intro); k_dat 0 "rdD"))
  | ((with_reducible (apply Exists.intro; apply Exists.intro; apply And.intro)); (case left => first | k_dat 0 "asD" | k_dat 0 "asX"))
  | ((with_reducible apply And.intro); (case left => apply len_le; apply Eq.refl))
  | ((with_reducible (apply Exists.intro (Sum.inl _); apply And.intro)); (case left => apply Eq.refl)) | ((with_reducible (apply Exists.intro (Sum.inr _); apply And.intro)); (case left => apply Eq.refl)))
local macro_rules | `(tactic| k_dat 0 "wk") => `(tactic| with_reducible first | apply x_forD (K := K) | apply x_lc (K := K) | apply wkD_list | apply wkD_tup | apply wkD_seq | apply wkD_rng1 | apply wkD_rng2 | apply wkD_str)
local macro_rules | `(tactic| k_dat 0 "ml1") => `(tactic| first | k_dat 0 "st" | k_dat 0 "ex" | k_dat 0 "wk" | k_dat 0 "vr" | k_dat 0 "tg" | k_dat 0 "op" | k_dat 0 "sp")
local macro_rules | `(tactic| k_dat 0 "ml") => `(tactic| repeat k_dat 0 "ml1")
abbrev S_law_draw (K : PySem.W.Frag) : Sp := spOf 1 (drawM K)
def signM (K : PySem.W.Frag) : MSp := fun Rs q => ∃ n, Rs = [deck n] ∧ n < 2 ^ 39 ∧ ∀ l ∈ signs, q (dat K (.str l)) [deck (n + 1)]
abbrev S_law_sign (K : PySem.W.Frag) : Sp := spOf 1 (signM K)
theorem c_sign {ρ : MS} {Q : Rt → MS → Prop} {i m : Nat} (e : ρ[i]? = some (some (deck m))) (h3 : m < 2 ^ 39) (q : ∀ l ∈ signs, Q (.val (dat K (.str l))) (ρ.set i (some (deck (m + 1))))) : call1 (signM K) [Rt.at i] ρ Q := c_one [] e ⟨m, rfl, h3, fun l hl => ⟨_, rfl, q l hl⟩⟩
theorem scSign : FnScope ["_law_deck_here"] ["_law_deck_here"] (defScope sSign) := ⟨rfl, rfl, rfl, by decide +kernel, rfl, by decide +kernel, by decide +kernel⟩
theorem ok_sign2 {f : Addr} {fd : FuncData} (G : Fun K "_law_sign" "_law_sign" sSign f fd) (h_law_pick : HasM P w K mg base "_law_pick" 2 ["_law_deck_here", "_law_some"] (S_law_pick K)) : FnG P w K mg base CX0 3 f fd ["_law_deck_here"] (S_law_sign K) := by
  refine fn_ml G scSign (fun Rs q ⟨_, h, _⟩ => by rw [h]; rfl) (by decide) fun cdv A outer s H E hrG => ?_
  refine ⟨_, (pss_one (ps_ret (pe_hg h_law_pick (hrG.mono (by decide)) rfl (pa_cons (pv 0) (pa_cons (pe_lst (pa_cons pe_str (pa_cons pe_str (pa_cons pe_str (pa_cons pe_str (pa_cons pe_str (pa_cons pe_str pa_nil))))))) pa_nil))))), ?_⟩
  rintro Rs q ⟨n, rfl, hn, hq⟩
  rw [outF_eq]
  try dsimp only [cxOf, Cx.nox, Cx.wish]
  show ML.ex 1 _ [some (deck n)] _
  k_dat 0 "ml"
  refine c_pickL rfl (by decide) (by decide) (by omega) fun d hd => ?_
  obtain ⟨l, hl, rfl⟩ : ∃ l ∈ signs, d = .str l := by
    have e : ([PyData.str "a", PyData.str "a", PyData.str "b", PyData.str "c", PyData.str "ab", PyData.str "zzzzzzzz"] : List PyData) = signs.map PyData.str := rfl
    rw [e] at hd
    obtain ⟨l, hl, e⟩ := List.mem_map.mp hd
    exact ⟨l, hl, e.symm⟩
  exact ⟨_, _, ret_val rfl, hq l hl⟩
def grownM (K : PySem.W.Frag) (top turns : Nat) : MSp := fun Rs q => ∃ n, Rs = [deck n, dat K (.int top), dat K (.int turns)] ∧ n < 2 ^ 29 ∧ ∀ (m size : Nat) (R : List Row), m ≤ n + 200 → size ≤ top → R.length ≤ 2 * turns → (∀ r ∈ R, (-1 ≤ r.1 ∧ r.1 < top) ∧ r.2.1 ∈ signs ∧ -1 ≤ r.2.2 ∧ r.2.2 < top) → GrOk R size → R.Pairwise rowLt → q (dat K (.tuple [.int size, .tuple (R.map rowD)])) [deck m]
theorem scGrown2 : FnScope ["_law_deck_here", "_law_top", "_law_turns_here", "_law_size", "_law_some", "_law_turn", "_law_way", "_law_here"] ["_law_deck_here", "_law_top", "_law_turns_here"] (defScope sGrown) := ⟨rfl, rfl, rfl, by decide +kernel, rfl, by decide +kernel, by decide +kernel⟩
theorem ok_grown2 {f : Addr} {fd : FuncData} (top turns : Nat) (ht1 : 1 ≤ top) (ht2 : top ≤ 12) (ht3 : turns ≤ 17) (ht4 : 1 ≤ turns) (G : Fun K "_law_grown" "_law_grown" sGrown f fd) (T : Blt mg) (h_law_draw : HasM P w K mg base "_law_draw" 1 ["_law_deck_here", "_law_many"] (S_law_draw K)) (h_law_pick : HasM P w K mg base "_law_pick" 2 ["_law_deck_here", "_law_some"] (S_law_pick K)) (h_law_sign : HasM P w K mg base "_law_sign" 3 ["_law_deck_here"] (S_law_sign K)) :
    FnG P w K mg base CX0 4 f fd ["_law_deck_here", "_law_top", "_law_turns_here"] (spOf 1 (grownM K top turns)) := by
  refine fn_ml G scGrown2 (fun Rs q ⟨_, h, _⟩ => by rw [h]; rfl) (by decide) fun cdv A outer s H E hrG => ?_
  have hr := hrG.room
  have hu64 := hr.units
  refine ⟨_, (pss_cons (ps_par (i := 3) (j := 4) rfl scGrown2.nd rfl rfl (by decide) rfl rfl (pa_cons pe_int (pa_cons (pe_lst pa_nil) pa_nil)) (by rfl))
  (pss_cons (ps_for PassesOwn.never rfl (pi_range1 (by rfl) T.b_range (pa_cons (pe_op op_add pe_int (pe_hg h_law_draw (hrG.mono (by decide)) rfl (pa_cons (pv 0) (pa_cons (pv 2) pa_nil)))) pa_nil)) (pg_name (i := 5) scGrown2.nd rfl (Or.inl rfl))
    (pss_cons (ps_par (i := 6) (j := 7) rfl scGrown2.nd rfl rfl (by decide) rfl rfl (pa_cons (pe_hg h_law_draw (hrG.mono (by decide)) rfl (pa_cons (pv 0) (pa_cons pe_int pa_nil))) (pa_cons (pe_hg h_law_draw (hrG.mono (by decide)) rfl (pa_cons (pv 0) (pa_cons (pv 3) pa_nil))) pa_nil)) (by rfl))
  (pss_one (ps_if (PW.pt (pw_and (pt_cmpR op_lt (pv 6) pe_int (nomark _)) (pw_and1 (pt_cmpR op_lt (pv 3) (pv 1) (nomark _)))))
    (pss_cons (ps_expr (pe_bm PySem.F.plainAttrs_list PySem.F.slot_list_append PySem.F.type_list_append mt_append (pv 4) (pa_cons (pe_tup (pa_cons (pv 7) (pa_cons (pe_hg h_law_sign (hrG.mono (by decide)) rfl (pa_cons (pv 0) pa_nil)) (pa_cons (pv 3) pa_nil)))) pa_nil)))
  (pss_cons (ps_if (pt_cmpR op_gt (pe_hg h_law_draw (hrG.mono (by decide)) rfl (pa_cons (pv 0) (pa_cons pe_int pa_nil))) pe_int (nomark _))
    (pss_one (ps_expr (pe_bm PySem.F.plainAttrs_list PySem.F.slot_list_append PySem.F.type_list_append mt_append (pv 4) (pa_cons (pe_tup (pa_cons (pv 3) (pa_cons (pe_hg h_law_sign (hrG.mono (by decide)) rfl (pa_cons (pv 0) pa_nil)) (pa_cons (pe_hg h_law_pick (hrG.mono (by decide)) rfl (pa_cons (pv 0) (pa_cons (pe_lst (pa_cons pe_int (pa_cons (pv 7) (pa_cons (pv 7) (pa_cons (pe_hg h_law_draw (hrG.mono (by decide)) rfl (pa_cons (pv 0) (pa_cons (pe_op op_add (pv 3) pe_int) pa_nil))) pa_nil))))) pa_nil))) pa_nil)))) pa_nil))))
    pss_nil)
  (pss_one (ps_set (i := 3) scGrown2.nd rfl (Or.inl rfl) (pe_op op_add (pv 3) pe_int)))))
    (pss_one (ps_if (pt_cmpR op_eq (pv 6) pe_int (nomark _))
    (pss_one (ps_expr (pe_bm PySem.F.plainAttrs_list PySem.F.slot_list_append PySem.F.type_list_append mt_append (pv 4) (pa_cons (pe_tup (pa_cons (pv 7) (pa_cons (pe_hg h_law_sign (hrG.mono (by decide)) rfl (pa_cons (pv 0) pa_nil)) (pa_cons (pe_un un_neg pe_int) pa_nil)))) pa_nil))))
    (pss_one (ps_expr (pe_bm PySem.F.plainAttrs_list PySem.F.slot_list_append PySem.F.type_list_append mt_append (pv 4) (pa_cons (pe_tup (pa_cons (pv 7) (pa_cons (pe_hg h_law_sign (hrG.mono (by decide)) rfl (pa_cons (pv 0) pa_nil)) (pa_cons (pe_ifExp (pt_cmpR op_eq (pv 6) pe_int (nomark _)) (pv 7) (pe_hg h_law_draw (hrG.mono (by decide)) rfl (pa_cons (pv 0) (pa_cons (pv 3) pa_nil)))) pa_nil)))) pa_nil))))))))))
  (pss_one (ps_ret (pe_tup (pa_cons (pv 3) (pa_cons (pe_callTy call_tupQ (by rfl) T.b_tuple (by decide +kernel) (pa_cons (pe_callB (cr_sortedK rfl hu64) (by rfl) T.b_sorted (by decide +kernel) (pa_cons (pe_callTy (cr_setK rfl hu64) (by rfl) T.b_set (by decide +kernel) (pa_cons (pv 4) pa_nil)) pa_nil)) pa_nil)) pa_nil))))))), ?_⟩
  rintro Rs q ⟨n, rfl, hn, hq⟩
  rw [outF_eq]
  try dsimp only [cxOf, Cx.nox, Cx.wish]
  show ML.ex 1 _ [some (deck n), some (dat K (.int top)), some (dat K (.int turns)), none, none, none, none, none] _
  k_dat 0 "ml"
  refine c_draw rfl (by omega) (by omega) (by omega) fun t0 t00 t01 => ?_
  k_dat 0 "ml"
  refine ⟨by omega, by omega, ?_⟩
  refine for_pre (List.range (1 + t0).toNat) _ rfl (fun pre ρ' => ∃ (m size : Nat) (R : List Row) (x5 x6 x7 : Option Res), ρ' = [some (deck m), some (dat K (.int top)), some (dat K (.int turns)), some (dat K (.int size)), some (lo K (R.map rowD)), x5, x6, x7] ∧ m ≤ n + 1 + 10 * pre.length ∧ 1 ≤ size ∧ size ≤ top ∧ R.length ≤ 2 * pre.length ∧ (∀ r ∈ R, (-1 ≤ r.1 ∧ r.1 < top) ∧ r.2.1 ∈ signs ∧ -1 ≤ r.2.2 ∧ r.2.2 < top) ∧ GrOk R size)
    ⟨n + 1, 1, [], none, none, none, rfl, Nat.le_refl _, Nat.le_refl _, ht1, Nat.le_refl _, (fun _ h => nomatch h), GrOk.init⟩ ?_ ?_
  · rintro pre x post ρ' epre ⟨m, size, R, x5, x6, x7, rfl, hm, hs1, hs2, hl, hR, gr⟩
    have hpl : pre.length < 17 := by
      have := congrArg List.length epre
      simp at this
      omega
    refine ⟨[5], by decide, ?_⟩
    k_dat 0 "ml"
    refine c_draw rfl (by omega) (by omega) (by omega) fun way w0 w1 => ?_
    k_dat 0 "ml"
    refine c_draw rfl (by omega) (by omega) (by omega) fun here h0 h1 => ?_
    k_dat 0 "ml"
    refine x_if (evT_mono (Qb := fun b' ρ' => (b' = true → size < top) ∧ ρ' = [some (deck (m + 2)), some (dat K (.int top)), some (dat K (.int turns)), some (dat K (.int size)), some (lo K (R.map rowD)), some (dat K (.int x)), some (dat K (.int way)), some (dat K (.int here))]) ?_ ?_)
    · k_dat 0 "ml"
      refine ⟨fun _ => ?_, fun _ => ⟨fun h => Bool.noConfusion h, rfl⟩⟩
      k_dat 0 "ml"
      exact ⟨fun h => by rw [decide_eq_true_eq] at h; omega, rfl⟩
    rintro b' _ ⟨hb, rfl⟩
    refine ⟨fun hb' => ?_, fun hb' => ?_⟩
    · have hst := hb hb'
      k_dat 0 "ml"
      refine c_sign rfl (by omega) fun l hsl => ?_
      k_dat 0 "ml"
      have hl8 := (sign_ok l hsl).2.2
      have g1 := gr.grow h0 h1 hl8
      have hR1 : ∀ r ∈ R ++ [((here, l, (size : Int)) : Row)], (-1 ≤ r.1 ∧ r.1 < top) ∧ r.2.1 ∈ signs ∧ -1 ≤ r.2.2 ∧ r.2.2 < top := fun r hr => by
        rcases List.mem_append.mp hr with hr | hr
        · exact hR r hr
        · rw [List.mem_singleton.mp hr]
          exact ⟨⟨by simp only; omega, by simp only; omega⟩, hsl, by simp only; omega, by simp only; omega⟩
      apply x_if
      k_dat 0 "ml"
      refine c_draw rfl (by omega) (by omega) (by omega) fun k k0 k1 => ?_
      k_dat 0 "ml"
      refine ⟨fun _ => ?_, fun _ => ?_⟩
      · k_dat 0 "ml"
        refine c_sign rfl (by omega) fun l2 hsl2 => ?_
        k_dat 0 "ml"
        refine c_draw rfl (by omega) (by omega) (by omega) fun d d0 d1 => ?_
        k_dat 0 "ml"
        refine c_pickL rfl (by simp) (by simp) (by omega) fun e he => ?_
        obtain ⟨z, rfl, z0, z1⟩ : ∃ z : Int, e = .int z ∧ 0 ≤ z ∧ z < size + 1 := by
          simp only [List.mem_cons, List.not_mem_nil, or_false] at he
          rcases he with rfl | rfl | rfl | rfl
          · exact ⟨_, rfl, by omega, by omega⟩
          · exact ⟨_, rfl, by omega, by omega⟩
          · exact ⟨_, rfl, by omega, by omega⟩
          · exact ⟨_, rfl, by omega, by omega⟩
        k_dat 0 "ml"
        refine ⟨m + 7, size + 1, (R ++ [(here, l, (size : Int))]) ++ [((size : Int), l2, z)], some (dat K (.int x)), some (dat K (.int way)), some (dat K (.int here)), ?_, ?_, by omega, by omega, by simp; omega, ?_, ?_⟩
        rotate_left
        · rw [List.length_append]
          simp only [List.length_cons, List.length_nil]
          omega
        · intro r hr
          rcases List.mem_append.mp hr with hr | hr
          · exact hR1 r hr
          · rw [List.mem_singleton.mp hr]
            exact ⟨⟨by simp only; omega, by simp only; omega⟩, hsl2, by simp only; omega, by simp only; omega⟩
        · exact g1.add ⟨⟨by simp only; omega, by simp only; omega⟩, ⟨by simp only; omega, by simp only; omega⟩, (sign_ok l2 hsl2).2.2⟩
        · rw [List.map_append, List.map_append]
          rfl
      · k_dat 0 "ml"
        refine ⟨m + 4, size + 1, R ++ [(here, l, (size : Int))], some (dat K (.int x)), some (dat K (.int way)), some (dat K (.int here)), ?_, ?_, by omega, by omega, by simp; omega, hR1, g1⟩
        rotate_left
        · rw [List.length_append]
          simp only [List.length_cons, List.length_nil]
          omega
        · rw [List.map_append]
          rfl
    · apply x_if
      k_dat 0 "ml"
      have fin : ∀ (m' : Nat) (l : Str) (z : Int), l ∈ signs → -1 ≤ z → z < size → m' ≤ m + 9 → ∀ ρ', ρ' = [some (deck m'), some (dat K (.int top)), some (dat K (.int turns)), some (dat K (.int size)), some (lo K (R.map rowD ++ [PyData.tuple [.int here, .str l, .int z]])), some (dat K (.int x)), some (dat K (.int way)), some (dat K (.int here))] →
          ∃ (m size : Nat) (R : List Row) (x5 x6 x7 : Option Res), ρ' = [some (deck m), some (dat K (.int top)), some (dat K (.int turns)), some (dat K (.int size)), some (lo K (R.map rowD)), x5, x6, x7] ∧ m ≤ n + 1 + 10 * (pre ++ [x]).length ∧ 1 ≤ size ∧ size ≤ top ∧ R.length ≤ 2 * (pre ++ [x]).length ∧ (∀ r ∈ R, (-1 ≤ r.1 ∧ r.1 < top) ∧ r.2.1 ∈ signs ∧ -1 ≤ r.2.2 ∧ r.2.2 < top) ∧ GrOk R size := fun m' l z hsl z0 z1 hm' ρ' e => by
        subst e
        refine ⟨m', size, R ++ [(here, l, z)], some (dat K (.int x)), some (dat K (.int way)), some (dat K (.int here)), ?_, ?_, hs1, hs2, ?_, fun r hr => ?_, gr.add ⟨⟨h0, h1⟩, ⟨z0, z1⟩, (sign_ok l hsl).2.2⟩⟩
        · rw [List.map_append]
          rfl
        · rw [List.length_append]
          simp only [List.length_cons, List.length_nil]
          omega
        · simp
          omega
        · rcases List.mem_append.mp hr with hr | hr
          · exact hR r hr
          · rw [List.mem_singleton.mp hr]
            exact ⟨⟨by simp only; omega, by simp only; omega⟩, hsl, by simp only; omega, by simp only; omega⟩
      refine ⟨fun _ => ?_, fun _ => ?_⟩
      · k_dat 0 "ml"
        refine c_sign rfl (by omega) fun l hsl => ?_
        k_dat 0 "ml"
        exact fin _ l (-1) hsl (by omega) (by omega) (by omega) _ rfl
      · k_dat 0 "ml"
        refine c_sign rfl (by omega) fun l hsl => ?_
        k_dat 0 "ml"
        refine ⟨fun _ => ?_, fun _ => ?_⟩
        · k_dat 0 "ml"
          exact fin _ l here hsl (by omega) (by omega) (by omega) _ rfl
        · k_dat 0 "ml"
          refine c_draw rfl (by omega) (by omega) (by omega) fun k k0 k1 => ?_
          k_dat 0 "ml"
          exact fin _ l k hsl (by omega) (by omega) (by omega) _ rfl
  · rintro ρ' ⟨m, size, R, x5, x6, x7, rfl, hm, hs1, hs2, hl, hR, gr⟩
    rw [List.length_range] at hm hl
    k_dat 0 "ml"
    refine ⟨by omega, fun R' pw nd hm' => ?_⟩
    k_dat 0 "ml"
    have sR := strict_rows pw nd
    have hlen : R'.length ≤ R.length := KS.nodup_leK _ _ nd fun x hx => (hm' x).mp hx
    exact ⟨_, _, ret_val rfl, hq m size R' (by omega) hs2 (by omega) (fun r hr => hR r ((hm' r).mp hr)) (gr.same hm') sR⟩
end
end K24

/-! _law_is_row, _law_is_removal. -/
namespace K24
open PySem L2 KS GL LB K24m ML
open CH (outs sucs ChC ChartAt cf cf_arrows cf_states ChartOk spInit arrowB labelB)
open PySem.Spec hiding Row
open PyProof.Rows hiding cnt
open EqQ (rowIn op_inAny_)
def rowB (L : List Row) (d : PyData) : Bool := match asRow d with
  | some r => decide (r ∈ L)
  | none => false
theorem eqv_i {x : Int} {a : PyData} (h : isBool a = false) : PyData.eqv (.int x) a = (match a with | .int y => decide (x = y) | _ => false) := by
  cases a <;> simp [PyData.eqv, isBool] at h ⊢
  exact Bool.beq_eq_decide_eq _ _
theorem eqv_s {x : Str} {a : PyData} : PyData.eqv (.str x) a = (match a with | .str y => decide (x = y) | _ => false) := by
  cases a <;> simp [PyData.eqv]
  exact Bool.beq_eq_decide_eq _ _
theorem rowIn_eq {L : List Row} {a b c : PyData} (ha : isBool a = false) (hc : isBool c = false) : rowIn L [a, b, c] = rowB L (.tuple [a, b, c]) := by
  have e : ∀ z : Row, PyData.eqv (rowD z) (.tuple [a, b, c]) = (match asRow (.tuple [a, b, c]) with | some r => decide (z = r) | none => false) := by
    intro z
    obtain ⟨z1, z2, z3⟩ := z
    unfold rowD
    rw [PyData.eqv, PyData.eqvAll, PyData.eqvAll, PyData.eqvAll, PyData.eqvAll, eqv_i ha, eqv_s, eqv_i hc]
    cases a <;> first | (simp [asRow]; done) | skip
    cases b <;> first | (simp [asRow]; done) | skip
    cases c <;> first | (simp [asRow]; done) | skip
  unfold rowIn rowB
  rw [show (fun z => PyData.eqv (rowD z) (.tuple [a, b, c])) = fun z => (match asRow (.tuple [a, b, c]) with | some r => decide (z = r) | none => false) from funext e]
  cases asRow (.tuple [a, b, c]) with
  | none => simp
  | some r =>
    rw [Bool.eq_iff_iff, List.any_eq_true, decide_eq_true_eq]
    constructor
    · rintro ⟨z, hz, h⟩
      have : z = r := by simpa using h
      rw [← this]
      exact hz
    · exact fun h => ⟨r, h, by simp⟩
theorem rowB_bool {L : List Row} {a b c : PyData} (h : isBool a = true ∨ isBool c = true) : rowB L (.tuple [a, b, c]) = false := by
  unfold rowB asRow
  split
  · rename_i r e
    split at e
    · rename_i z
      cases z
      simp [isBool] at h
    · cases e
  · rfl
theorem rowB_len {L : List Row} {ds : List PyData} (h : ds.length ≠ 3) : rowB L (.tuple ds) = false := by
  unfold rowB asRow
  split
  · rename_i r e
    split at e
    · rename_i z
      cases z
      simp at h
    · cases e
  · rfl
section
variable {P : Program} {w : World} {K : PySem.W.Frag} {mg : Str → Option Value} {base : Heap}
set_option hygiene false
local macro_rules | `(tactic| k_dat 0 "rd") => `(tactic| first | with_reducible apply rd.val | with_reducible apply rd.own | (apply rd.slot; apply Eq.refl) | (apply rd.slotL; apply Eq.refl))
local macro_rules | `(tactic| k_dat 0 "rdS") => `(tactic| first | with_reducible (apply rdS.l; apply rd.val) | with_reducible (apply rdS.t; apply rd.val) | with_reducible (apply rdS.l; apply rd.own) | (apply rdS.l; apply rd.slotL; apply Eq.refl) | (apply rdS.l; apply rd.slot; apply Eq.refl) | (apply rdS.t; apply rd.slot; apply Eq.refl))
local macro_rules | `(tactic| k_dat 0 "rdD") => `(tactic| first | with_reducible apply rdD.val | with_reducible apply rdD.own | (apply rdD.slot; apply Eq.refl) | (apply rdD.slotP; apply Eq.refl))
local macro_rules | `(tactic| k_dat 0 "sc") => `(tactic| first | apply Sc.int | apply Sc.bl | apply Sc.str | apply Sc.non)
local macro_rules | `(tactic| k_dat 0 "asD") => `(tactic| first | with_reducible apply asD.val | with_reducible apply asD.own | (apply asD.slot; apply Eq.refl))
local macro_rules | `(tactic| k_dat 0 "asX") => `(tactic| first | with_reducible apply asX.pure | with_reducible apply asX.own | (apply asX.slot; apply Eq.refl) | with_reducible apply asX.keep)
local macro_rules | `(tactic| k_dat 0 "nf") => `(tactic| first | (conv => arg 3; dsimp only [wipeM, List.set, List.map]) | skip)
local macro_rules | `(tactic| k_dat 0 "eq") => `(tactic| first | (dsimp only [wipeM, List.set, List.map]; done) | (dsimp only [wipeM, List.set, List.map]; apply Eq.refl) | apply Eq.refl)
local macro_rules | `(tactic| k_dat 0 "st") => `(tactic| first
  | ((with_reducible apply x_seq); k_dat 0 "nf") | ((with_reducible apply x_parT2); (case hi => omega); (case hj => omega)) | ((with_reducible apply x_asg2); (case hi => omega); (case hj => omega)) | ((with_reducible apply x_asg3); (case hi => omega); (case hj => omega); (case hl => omega)) | ((with_reducible apply x_par4); (case hi => omega); (case hj => omega); (case hk => omega); (case hl => omega)) | ((with_reducible apply x_par2); (case hij => omega); (case hi => omega); (case hj => omega)) | with_reducible first | (apply x_asg; case hl => decide) | apply x_drop | apply x_ret | apply x_next | apply x_break | apply x_cont
  | apply x_dput (K := K) | apply x_putN (K := K) | apply x_retN)
local macro_rules | `(tactic| k_dat 0 "ex") => `(tactic| with_reducible first
  | apply ev_int (K := K) | apply ev_str (K := K) | apply ev_bl (K := K) | apply ev_non (K := K)
  | apply ev_tup (K := K) | apply ev_lst (K := K) | apply ev_op | apply ev_un | apply ev_sset_rows (K := K) | apply ev_sset_ints (K := K) | apply ev_cb1 | apply ev_cb2 | apply ev_andV (K := K) | apply ev_orV (K := K) | apply ev_notV (K := K) | apply ev_if
  | apply ev_sl | apply evO_none | apply evO_some (K := K) | apply ev_rev | apply ev_bm1 | apply ev_bm0 | apply ev_dnew (K := K) | apply ev_disp (K := K) | apply ev_dget1 (K := K) | apply ev_dget2 (K := K) | apply ev_dinI (K := K) | apply ev_dninI (K := K) | apply ev_chainI (K := K)
  | apply ev_call | apply ev_call1
  | apply evD_nil | apply evD_cons | apply evA_nil | apply evA_x (K := K) | apply evPs_nil | apply evPs_cons
  | apply ev_dispN (K := K) | apply evPsN_nil | apply evPsN_cons | apply ev_ninN (K := K) | apply ev_ninR (K := K) | apply ev_dcR (K := K)
  | apply evT_val (K := K) | apply evT_B (K := K) | apply evT_and | apply evT_or | apply evT_not | apply evT_yes)
local macro_rules | `(tactic| k_dat 0 "vr") => `(tactic| first
  | ((with_reducible apply ev_var); (case h => apply Eq.refl)) | ((with_reducible apply ev_at); (case h => apply Eq.refl))
  | ((with_reducible apply x_augI); (case hi => decide); (case h0 => apply Eq.refl)))
local macro_rules | `(tactic| k_dat 0 "tg") => `(tactic| first
  | (with_reducible apply tg_name) | ((with_reducible apply tg_move); (case h => apply Eq.refl)) | ((with_reducible apply tg_tup); (case hn => rfl)) | (with_reducible apply tg_row) | (with_reducible apply tgs_nil) | (with_reducible apply tgs_consN))
local macro_rules | `(tactic| k_dat 0 "len") => `(tactic| ((first | apply lt_line | apply le_line); (try simp only [List.length_map, List.length_append, List.length_cons, List.length_nil, List.length_range]); omega))
local macro_rules | `(tactic| k_dat 0 "op") => `(tactic| first
  | ((with_reducible apply op_i0 (K := K)); (case h1 => k_dat 0 "rd"); (case h2 => k_dat 0 "rd"); (case hd => k_dat 0 "sc"))
  | ((with_reducible apply op_eqI (K := K)); (case h1 => k_dat 0 "rd"); (case h2 => k_dat 0 "rd")) | ((with_reducible apply op_neI (K := K)); (case h1 => k_dat 0 "rd"); (case h2 => k_dat 0 "rd"))
  | ((with_reducible apply op_eqS (K := K)); (case h1 => k_dat 0 "rd"); (case h2 => k_dat 0 "rd")) | ((with_reducible apply op_neS (K := K)); (case h1 => k_dat 0 "rd"); (case h2 => k_dat 0 "rd"))
  | ((with_reducible apply op_ixR0 (K := K)); (case h1 => k_dat 0 "rd"); (case h2 => k_dat 0 "rd")) | ((with_reducible apply op_ixR1 (K := K)); (case h1 => k_dat 0 "rd"); (case h2 => k_dat 0 "rd")) | ((with_reducible apply op_ixR2 (K := K)); (case h1 => k_dat 0 "rd"); (case h2 => k_dat 0 "rd"))
  | ((with_reducible apply un_i (K := K)); (case h1 => k_dat 0 "rd"); (case hd => k_dat 0 "sc"))
  | ((with_reducible apply un_len (K := K)); (case h => k_dat 0 "rdS")) | ((with_reducible apply un_list (K := K)); (case h => k_dat 0 "rdS")) | ((with_reducible apply un_tuple (K := K)); (case h => first | (apply rdS.l; k_dat 0 "rd") | (apply rdS.t; k_dat 0 "rd")))
  | ((with_reducible apply un_int (K := K)); (case h => k_dat 0 "rd")) | ((with_reducible apply un_lenD (K := K)); (case h => k_dat 0 "rdD")) | ((with_reducible apply un_listK (K := K)); (case h => k_dat 0 "rdD"))
  | ((with_reducible apply op_append (K := K)); (case hd => k_dat 0 "asD"); (case e => apply Eq.refl); (case hl => k_dat 0 "len"))
  | ((with_reducible apply op_cat_ (K := K)); (case h1 => k_dat 0 "rd"); (case h2 => k_dat 0 "rd"); (case hl => k_dat 0 "len"))
  | ((with_reducible apply op_max2 (K := K)); (case h1 => k_dat 0 "rd"); (case h2 => k_dat 0 "rd")) | ((with_reducible apply op_min2 (K := K)); (case h1 => k_dat 0 "rd"); (case h2 => k_dat 0 "rd"))
  | ((with_reducible apply sl_list_ (K := K)); (case h1 => k_dat 0 "rd")) | ((with_reducible apply sl_tup_ (K := K)); (case h1 => k_dat 0 "rd")))
local macro_rules | `(tactic| k_dat 0 "sp") => `(tactic| first
  | ((with_reducible (apply Exists.intro; apply And.intro)); (case left => with_reducible apply Eq.refl))
  | ((with_reducible (apply Exists.intro; apply And.intro)); (case left => first | k_dat 0 "rd" | k_dat 0 "rdD"))
  | ((with_reducible apply And.intro); (case left => (with_reducible apply Exists.intro); k_dat 0 "rdD"))
  | ((with_reducible (apply Exists.intro; apply Exists.intro; apply And.intro)); (case left => first | k_dat 0 "asD" | k_dat 0 "asX"))
  | ((with_reducible apply And.intro); (case left => apply len_le; apply Eq.refl))
  | ((with_reducible (apply Exists.intro (Sum.inl _); apply And.intro)); (case left => apply Eq.refl)) | ((with_reducible (apply Exists.intro (Sum.inr _); apply And.intro)); (case left => apply Eq.refl)))
local macro_rules | `(tactic| k_dat 0 "wk") => `(tactic| with_reducible first | apply x_forD (K := K) | apply x_lc (K := K) | apply wkD_list | apply wkD_tup | apply wkD_seq | apply wkD_rng1 | apply wkD_rng2 | apply wkD_str)
local macro_rules | `(tactic| k_dat 0 "ml1") => `(tactic| first | k_dat 0 "st" | k_dat 0 "ex" | k_dat 0 "wk" | k_dat 0 "vr" | k_dat 0 "tg" | k_dat 0 "op" | k_dat 0 "sp")
local macro_rules | `(tactic| k_dat 0 "ml") => `(tactic| repeat k_dat 0 "ml1")
def isRowM (K : PySem.W.Frag) : MSp := fun Rs q => ∃ (L : List Row) (d : PyData), Rs = [dat K (.list (L.map rowD)), dat K d] ∧ L.length ≤ 76 ∧ (∀ x ∈ L, Lbl x) ∧ q (dat K (.bool (rowB L d))) []
abbrev S_law_is_row (K : PySem.W.Frag) : Sp := spOf 0 (isRowM K)
theorem scIsRow : FnScope ["_law_some", "_law_it"] ["_law_some", "_law_it"] (defScope sIsRow) := ⟨rfl, rfl, rfl, by decide +kernel, rfl, by decide +kernel, by decide +kernel⟩
theorem ok_isRow {f : Addr} {fd : FuncData} (G : Fun K "_law_is_row" "_law_is_row" sIsRow f fd) (T : CH.Blt2 mg) : FnG P w K mg base CX0 1 f fd ["_law_some", "_law_it"] (S_law_is_row K) := by
  refine fn_ml G scIsRow (fun Rs q ⟨_, _, h, _⟩ => by rw [h]; rfl) (by decide) fun cdv A outer s H E hrG => ?_
  have hr := hrG.room
  have hu := hu_of hr
  have hu64 := hr.units
  refine ⟨_, (pss_cons (ps_if (PW.pt (pw_or (pt_not (pt_val (pe_callB call_isi (by rfl) T.b_isinstance (by decide +kernel) (pa_cons (pv 1) (pa_cons (pe_bltn (u := .type "tuple") (v := .ty "tuple") rfl T.b_tuple (by decide +kernel) rfl) pa_nil))))) (pw_or (pt_cmpR op_ne (pe_callB call_lenQ (by rfl) T.b_len PySem.boot_len (pa_cons (pv 1) pa_nil)) pe_int (nomark _)) (pw_or (pt_val (pe_callB call_isi (by rfl) T.b_isinstance (by decide +kernel) (pa_cons (pe_ix ix_tup (pv 1) pe_int (fun _ _ => rfl)) (pa_cons (pe_bltn (u := .type "bool") (v := .ty "bool") rfl T.b_bool (by decide +kernel) rfl) pa_nil)))) (pw_or1 (pt_val (pe_callB call_isi (by rfl) T.b_isinstance (by decide +kernel) (pa_cons (pe_ix ix_tup (pv 1) pe_int (fun _ _ => rfl)) (pa_cons (pe_bltn (u := .type "bool") (v := .ty "bool") rfl T.b_bool (by decide +kernel) rfl) pa_nil)))))))))
    (pss_one (ps_ret pe_bl))
    pss_nil)
  (pss_one (ps_ret (pe_cmpR (EqQ.op_inAny hu64) (pv 1) (pe_callTy call_listQ (by rfl) T.b_list (by decide +kernel) (pa_cons (pv 0) pa_nil)) (by rfl))))), ?_⟩
  rintro Rs q ⟨L, d, rfl, hl, hL, hq⟩
  rw [outF_eq]
  try dsimp only [cxOf, Cx.nox, Cx.wish]
  show ML.ex 0 _ [some (dat K (.list (L.map rowD))), some (dat K d)] _
  have no : rowB L d = false → ∀ nx', ML.ex 0 (tRet (tC (.bl false))) [some (dat K (.list (L.map rowD))), some (dat K d)] ⟨nx', fun r ρ' => ∃ R Rs', retR 0 r ρ' R Rs' ∧ q R Rs', fun _ => False, fun _ => False⟩ := fun e nx' => by
    k_dat 0 "ml"
    rw [e] at hq
    exact ⟨_, [], ret_val rfl, hq⟩
  refine x_seq (x_if (evT_or (evT_not (evT_B (K := K) (ev_isiA kit_tuple (ev_var rfl ⟨d, rd.val, ?_⟩))))))
  refine ⟨isTup d, rfl, fun h => ⟨fun _ => no ?_ _, fun h => Bool.noConfusion h⟩, fun h => ?_⟩
  · cases d <;> first | rfl | (simp [isTup] at h)
  obtain ⟨ds, rfl⟩ : ∃ ds, d = .tuple ds := by
    cases d <;> first | exact ⟨_, rfl⟩ | (simp [isTup] at h)
  k_dat 0 "ml"
  refine ⟨fun h => ⟨fun _ => no (rowB_len fun z => by simp [z] at h) _, fun h => Bool.noConfusion h⟩, fun h => ?_⟩
  have hl3 : ds.length = 3 := by
    have : ((ds.length : Nat) : Int) = 3 := by simpa using h
    omega
  obtain ⟨a, b, c, rfl⟩ : ∃ a b c, ds = [a, b, c] := by
    match ds, hl3 with
    | [a, b, c], _ => exact ⟨a, b, c, rfl⟩
  refine evT_or (evT_B (K := K) (ev_isiA kit_bool ?_))
  k_dat 0 "ml"
  refine op_ixT rd.val rd.val (d := a) rfl ⟨a, rd.val, isBool a, rfl, fun h1 => ?_, fun h1 => ?_⟩
  · exact ⟨fun _ => no (rowB_bool (.inl h1)) _, fun h => Bool.noConfusion h⟩
  refine evT_B (K := K) (ev_isiA kit_bool ?_)
  k_dat 0 "ml"
  refine op_ixT rd.val rd.val (d := c) rfl ⟨c, rd.val, isBool c, rfl, fun h2 => no (rowB_bool (.inr h2)) _, fun h2 => ?_⟩
  k_dat 0 "ml"
  refine op_inAny_ L rd.val rd.own (.inl rfl) hL ?_
  rw [← rowIn_eq h1 h2] at hq
  exact ⟨_, [], ret_val rfl, hq⟩
def isRemM (K : PySem.W.Frag) : MSp := fun Rs q => ∃ (R : List Row) (d : PyData), Rs = [dat K (.tuple (R.map rowD)), dat K d] ∧ R.length ≤ 76 ∧ (∀ x ∈ R, Lbl x) ∧ (∀ x ∈ R, x.1 ≠ -1) ∧ (∀ ds, d = .tuple ds → ds.length ≤ 100000) ∧ q (dat K (match remD R d with | some T => .list (T.map rowD) | none => .none)) []
abbrev S_law_is_removal (K : PySem.W.Frag) : Sp := spOf 0 (isRemM K)
theorem scIsRemoval : FnScope ["_law_some", "_law_it", "_law_left", "_law_row"] ["_law_some", "_law_it"] (defScope sIsRemoval) := ⟨rfl, rfl, rfl, by decide +kernel, rfl, by decide +kernel, by decide +kernel⟩
theorem ok_isRemoval {f : Addr} {fd : FuncData} (G : Fun K "_law_is_removal" "_law_is_removal" sIsRemoval f fd) (T : CH.Blt2 mg) (h_law_is_row : HasM P w K mg base "_law_is_row" 1 ["_law_some", "_law_it"] (S_law_is_row K)) (h_law_is_loop : HasM P w K mg base "_law_is_loop" 2 ["_law_some", "_law_row"] (S_law_is_loop K)) (h_law_after : HasM P w K mg base "_law_after" 2 ["_law_some", "_law_gone"] (S_law_after K)) :
    FnG P w K mg base CX0 3 f fd ["_law_some", "_law_it"] (S_law_is_removal K) := by
  refine fn_ml G scIsRemoval (fun Rs q ⟨_, _, h, _⟩ => by rw [h]; rfl) (by decide) fun cdv A outer s H E hrG => ?_
  have hr := hrG.room
  have hu := hu_of hr
  have hu64 := hr.units
  refine ⟨_, (pss_cons (ps_if (pt_not (pt_val (pe_callB call_isi (by rfl) T.b_isinstance (by decide +kernel) (pa_cons (pv 1) (pa_cons (pe_bltn (u := .type "tuple") (v := .ty "tuple") rfl T.b_tuple (by decide +kernel) rfl) pa_nil)))))
    (pss_one (ps_ret pe_non))
    pss_nil)
  (pss_cons (ps_set (i := 2) scIsRemoval.nd rfl (Or.inl rfl) (pe_callTy call_listQ (by rfl) T.b_list (by decide +kernel) (pa_cons (pv 0) pa_nil)))
  (pss_cons (ps_for PassesOwn.never rfl (pi_tup (pv 1)) (pg_name (i := 3) scIsRemoval.nd rfl (Or.inl rfl))
    (pss_cons (ps_if (PW.pt (pw_or (pt_not (pt_val (pe_hg h_law_is_row (hrG.mono (by decide)) rfl (pa_cons (pv 2) (pa_cons (pv 3) pa_nil))))) (pw_or1 (pt_not (pt_val (pe_hg h_law_is_loop (hrG.mono (by decide)) rfl (pa_cons (pv 2) (pa_cons (pv 3) pa_nil))))))))
    (pss_one (ps_ret pe_non))
    pss_nil)
  (pss_one (ps_set (i := 2) scIsRemoval.nd rfl (Or.inl rfl) (pe_hg h_law_after (hrG.mono (by decide)) rfl (pa_cons (pv 2) (pa_cons (pv 3) pa_nil)))))))
  (pss_one (ps_ret (pv 2)))))), ?_⟩
  rintro Rs q ⟨R, d, rfl, hl, hLb, hs, hd, hq⟩
  rw [outF_eq]
  try dsimp only [cxOf, Cx.nox, Cx.wish]
  show ML.ex 0 _ [some (dat K (.tuple (R.map rowD))), some (dat K d), none, none] _
  refine x_seq (x_if (evT_not (evT_B (K := K) (ev_isiA kit_tuple (ev_var rfl ⟨d, rd.val, ?_⟩)))))
  refine ⟨isTup d, rfl, fun h => ?_, fun h => ?_⟩
  · k_dat 0 "ml"
    have e : remD R d = none := by cases d <;> first | rfl | (simp [isTup] at h)
    rw [e] at hq
    exact ⟨_, [], ret_val rfl, hq⟩
  obtain ⟨ds, rfl⟩ : ∃ ds, d = .tuple ds := by
    cases d <;> first | exact ⟨_, rfl⟩ | (simp [isTup] at h)
  have hdl := hd ds rfl
  have hq : q (dat K (match remL R ds with | some T => .list (T.map rowD) | none => .none)) [] := hq
  k_dat 0 "ml"
  refine for_pre ds id (by rw [List.map_id]) (fun pre ρ' => ∃ (L : List Row) (x2 : Res) (x3 : Option Res), ρ' = [some (dat K (.tuple (R.map rowD))), some (dat K (.tuple ds)), some x2, x3] ∧ (x2 = ML.lo K (L.map rowD) ∨ x2 = dat K (.list (L.map rowD))) ∧ L.Sublist R ∧ remL R ds = remL L (ds.drop pre.length)) ⟨R, _, none, rfl, .inl rfl, List.Sublist.refl _, rfl⟩ ?_ ?_
  · rintro pre x post ρ' epre ⟨L, x2, x3, rfl, hx, hsub, hrem⟩
    have hle := hsub.length_le
    have hdr : ds.drop pre.length = x :: post := by rw [epre, List.drop_left]
    have hdr2 : ds.drop (pre ++ [x]).length = post := by
      rw [epre, show pre ++ x :: post = (pre ++ [x]) ++ post by simp, List.drop_left]
    rw [hdr, remL] at hrem
    rw [hdr2]
    have hLb' : ∀ z ∈ L, Lbl z := fun z hz => hLb z (hsub.subset hz)
    have hs' : ∀ z ∈ L, z.1 ≠ -1 := fun z hz => hs z (hsub.subset hz)
    have no : ∀ {ρ : MS}, remL R ds = none → ∃ R_1 Rs', retR 0 (.val (dat K .none)) ρ R_1 Rs' ∧ q R_1 Rs' := fun h => by
      rw [h] at hq
      exact ⟨_, [], ret_val rfl, hq⟩
    rcases hx with rfl | rfl
    · refine ⟨[3], by decide, ?_⟩
      k_dat 0 "ml"
      apply x_if
      k_dat 0 "ml"
      refine c_zero [_, _] ⟨L, x, rfl, by omega, hLb', ?_⟩
      unfold rowB
      cases hx : asRow x with
      | none =>
        rw [hx] at hrem
        refine ⟨false, rfl, fun _ => ⟨fun _ => ?_, fun h => Bool.noConfusion h⟩, fun h => Bool.noConfusion h⟩
        k_dat 0 "ml"
        exact no hrem
      | some r =>
        rw [hx] at hrem
        obtain rfl := asRow_some hx
        dsimp only at hrem ⊢
        refine ⟨_, rfl, fun h => ⟨fun _ => ?_, fun h => Bool.noConfusion h⟩, fun h => ?_⟩
        · have hn : r ∉ L := by simpa using h
          rw [if_neg fun z => hn z.1] at hrem
          k_dat 0 "ml"
          exact no hrem
        have hrL : r ∈ L := by simpa using h
        k_dat 0 "ml"
        refine c_zero [_, _] ⟨_, L, r, rfl, .inl rfl, by omega, hs', hLb', ?_⟩
        refine ⟨_, rfl, fun h => ?_, fun h => ?_⟩
        · have hn : loopB L r = false := by simpa using h
          rw [if_neg fun z => by rw [hn] at z; exact Bool.noConfusion z.2] at hrem
          k_dat 0 "ml"
          exact no hrem
        have hlp : loopB L r = true := by simpa using h
        rw [if_pos ⟨hrL, hlp⟩] at hrem
        k_dat 0 "ml"
        refine c_zero [_, _] ⟨L, r, rfl, by omega, hLb', hLb' r hrL, ?_⟩
        k_dat 0 "ml"
        exact ⟨_, _, _, rfl, .inr rfl, aft_sub.trans hsub, hrem⟩
    · refine ⟨[3], by decide, ?_⟩
      k_dat 0 "ml"
      apply x_if
      k_dat 0 "ml"
      refine c_zero [_, _] ⟨L, x, rfl, by omega, hLb', ?_⟩
      unfold rowB
      cases hx : asRow x with
      | none =>
        rw [hx] at hrem
        refine ⟨false, rfl, fun _ => ⟨fun _ => ?_, fun h => Bool.noConfusion h⟩, fun h => Bool.noConfusion h⟩
        k_dat 0 "ml"
        exact no hrem
      | some r =>
        rw [hx] at hrem
        obtain rfl := asRow_some hx
        dsimp only at hrem ⊢
        refine ⟨_, rfl, fun h => ⟨fun _ => ?_, fun h => Bool.noConfusion h⟩, fun h => ?_⟩
        · have hn : r ∉ L := by simpa using h
          rw [if_neg fun z => hn z.1] at hrem
          k_dat 0 "ml"
          exact no hrem
        have hrL : r ∈ L := by simpa using h
        k_dat 0 "ml"
        refine c_zero [_, _] ⟨_, L, r, rfl, .inl rfl, by omega, hs', hLb', ?_⟩
        refine ⟨_, rfl, fun h => ?_, fun h => ?_⟩
        · have hn : loopB L r = false := by simpa using h
          rw [if_neg fun z => by rw [hn] at z; exact Bool.noConfusion z.2] at hrem
          k_dat 0 "ml"
          exact no hrem
        have hlp : loopB L r = true := by simpa using h
        rw [if_pos ⟨hrL, hlp⟩] at hrem
        k_dat 0 "ml"
        refine c_zero [_, _] ⟨L, r, rfl, by omega, hLb', hLb' r hrL, ?_⟩
        k_dat 0 "ml"
        exact ⟨_, _, _, rfl, .inr rfl, aft_sub.trans hsub, hrem⟩
  · rintro ρ' ⟨L, x2, x3, rfl, hx, hsub, hrem⟩
    rw [List.drop_length] at hrem
    have hrem : remL R ds = some L := hrem
    rw [hrem] at hq
    rcases hx with rfl | rfl
    · k_dat 0 "ml"
      exact ⟨_, [], ret_dat (.slot rfl) rfl, hq⟩
    · k_dat 0 "ml"
      exact ⟨_, [], ret_val rfl, hq⟩
end
end K24

/-! Rows of few states as data that are shown. -/
namespace K24
open PySem L2 KS GL LB K24m ML
open PySem.Spec hiding Row
open PyProof.Rows hiding cnt
def twelve : List Int := [0, 1, 2, 3, 4, 5, 6, 7, 8, 9, 10, 11]
theorem in_twelve {x : Int} (h1 : -1 ≤ x) (h2 : x < 12) : InM twelve x := by
  refine ⟨⟨Int.le_trans (by decide) h1, Int.le_trans (Int.le_of_lt h2) (by decide)⟩, ?_⟩
  unfold twelve
  have : x = -1 ∨ x = 0 ∨ x = 1 ∨ x = 2 ∨ x = 3 ∨ x = 4 ∨ x = 5 ∨ x = 6 ∨ x = 7 ∨ x = 8 ∨ x = 9 ∨ x = 10 ∨ x = 11 := by omega
  simpa using this
theorem withAddr (R : List Row) : ((R.map fun r => ((0 : Addr), r)).map fun q => rowD q.2) = R.map rowD := by
  rw [List.map_map]
  rfl
section
variable {M : List Int} {R : List Row}
theorem good_addr (h : ∀ r ∈ R, Good M r) : ∀ q ∈ R.map (fun r => ((0 : Addr), r)), Good M q.2 := fun q hq => by
  obtain ⟨r, hr, rfl⟩ := List.mem_map.mp hq
  exact h r hr
theorem rowsT_shown (h : ∀ r ∈ R, Good M r) (hl : R.length ≤ 76) : (PyData.tuple (R.map rowD)).showable = true ∧ (PyData.tuple (R.map rowD)).depth ≤ 60 ∧ (PyData.tuple (R.map rowD)).shown.length ≤ sizeLine := by
  have h1 := rows_show _ (good_addr h)
  have h2 := rows_weight _ (good_addr h)
  have h3 := rows_short _ (good_addr h)
  rw [withAddr] at h1 h2 h3
  rw [List.length_map] at h2
  have hd := depth_rowsL R
  refine ⟨by rw [PyData.showable]; exact h1, by rw [PyData.depth]; omega, ?_⟩
  have h5 := PyData.shown_le 30 (by decide) (PyData.tuple (R.map rowD)) (by rw [PyData.leavesShort]; exact h3)
  rw [PyData.weight] at h5
  rw [sizeLine_eq]
  omega
theorem rowsT2_shown (h : ∀ r ∈ R, Good M r) (hl : R.length ≤ 76) : (PyData.list [.tuple (R.map rowD), .tuple (R.map rowD)]).showable = true ∧ (PyData.list [.tuple (R.map rowD), .tuple (R.map rowD)]).depth ≤ 60 ∧ (PyData.list [.tuple (R.map rowD), .tuple (R.map rowD)]).shown.length ≤ sizeLine := by
  have h1 := rows_show _ (good_addr h)
  have h2 := rows_weight _ (good_addr h)
  have h3 := rows_short _ (good_addr h)
  rw [withAddr] at h1 h2 h3
  rw [List.length_map] at h2
  have hd := depth_rowsL R
  refine ⟨by simp [PyData.showable, PyData.showableAll, h1], by simp only [PyData.depth, PyData.depthAll]; omega, ?_⟩
  have h5 := PyData.shown_le 30 (by decide) (PyData.list [.tuple (R.map rowD), .tuple (R.map rowD)]) (by simp [PyData.leavesShort, PyData.leavesShortAll, h3])
  simp only [PyData.weight, PyData.weightAll] at h5
  rw [sizeLine_eq]
  omega
end
end K24

/-! Plain Lean: bounds of data (small numbers, short texts, empty dicts), which the law bends. -/
namespace K24
open PySem L2 KS GL LB ML
open PySem.Spec hiding Row
open PyProof.Rows hiding cnt
mutual
def okS : PyData → Bool
  | .none => true
  | .bool _ => true
  | .int i => decide (-(2 ^ 80) ≤ i) && decide (i ≤ 2 ^ 80)
  | .str z => decide (z.length ≤ 8) && PyData.strOk z
  | .list ds => okSAll ds
  | .tuple ds => okSAll ds
  | .dict kvs => kvs.isEmpty
def okSAll : List PyData → Bool
  | [] => true
  | d :: ds => okS d && okSAll ds
end
structure Bd (k w : Nat) (x : PyData) : Prop where
  ok : okS x = true
  dp : x.depth ≤ k
  wt : x.weight ≤ w
structure BdL (k w : Nat) (xs : List PyData) : Prop where
  ok : okSAll xs = true
  dp : PyData.depthAll xs ≤ k
  wt : PyData.weightAll xs ≤ w
theorem Bd.mono {k w k' w' : Nat} {d : PyData} (h : Bd k w d) (hk : k ≤ k') (hw : w ≤ w') : Bd k' w' d := ⟨h.ok, Nat.le_trans h.dp hk, Nat.le_trans h.wt hw⟩
theorem BdL.mono {k w k' w' : Nat} {d : List PyData} (h : BdL k w d) (hk : k ≤ k') (hw : w ≤ w') : BdL k' w' d := ⟨h.ok, Nat.le_trans h.dp hk, Nat.le_trans h.wt hw⟩
theorem BdL.tup {k w : Nat} {ds : List PyData} (h : BdL k w ds) : Bd (k + 1) w (.tuple ds) := ⟨by rw [okS]; exact h.ok, by rw [PyData.depth]; have := h.dp; omega, by rw [PyData.weight]; exact h.wt⟩
theorem BdL.lst {k w : Nat} {ds : List PyData} (h : BdL k w ds) : Bd (k + 1) w (.list ds) := ⟨by rw [okS]; exact h.ok, by rw [PyData.depth]; have := h.dp; omega, by rw [PyData.weight]; exact h.wt⟩
theorem Bd.untup {k w : Nat} {ds : List PyData} (h : Bd (k + 1) w (.tuple ds)) : BdL k w ds := ⟨by have := h.ok; rw [okS] at this; exact this, by have := h.dp; rw [PyData.depth] at this; omega, by have := h.wt; rw [PyData.weight] at this; exact this⟩
theorem BdL.nil {k w : Nat} : BdL k w [] := ⟨rfl, Nat.zero_le _, Nat.zero_le _⟩
theorem BdL.cons {k w v : Nat} {d : PyData} {ds : List PyData} (h : Bd k w d) (h2 : BdL k v ds) : BdL k (w + 1 + v) (d :: ds) :=
  ⟨by rw [okSAll, h.ok, h2.ok]; rfl, by rw [PyData.depthAll]; exact Nat.max_le.mpr ⟨h.dp, h2.dp⟩, by rw [PyData.weightAll]; have := h.wt; have := h2.wt; omega⟩
theorem BdL.head {k w : Nat} {d : PyData} {ds : List PyData} (h : BdL k w (d :: ds)) : Bd k w d := by
  obtain ⟨h1, h2, h3⟩ := h
  rw [okSAll, Bool.and_eq_true] at h1
  rw [PyData.depthAll] at h2
  rw [PyData.weightAll] at h3
  exact ⟨h1.1, Nat.le_trans (Nat.le_max_left _ _) h2, by omega⟩
theorem BdL.tail {k w : Nat} {d : PyData} {ds : List PyData} (h : BdL k w (d :: ds)) : BdL k w ds := by
  obtain ⟨h1, h2, h3⟩ := h
  rw [okSAll, Bool.and_eq_true] at h1
  rw [PyData.depthAll] at h2
  rw [PyData.weightAll] at h3
  exact ⟨h1.2, Nat.le_trans (Nat.le_max_right _ _) h2, by omega⟩
theorem BdL.mem {k w : Nat} : ∀ {ds : List PyData}, BdL k w ds → ∀ d ∈ ds, Bd k w d
  | [], _, _, h => nomatch h
  | x :: ds, h, d, hd => by
    rcases List.mem_cons.mp hd with rfl | hd
    · exact h.head
    · exact BdL.mem h.tail d hd
theorem BdL.append {k w v : Nat} : ∀ {ds es : List PyData}, BdL k w ds → BdL k v es → BdL k (w + v) (ds ++ es)
  | [], es, _, h => h.mono (Nat.le_refl _) (Nat.le_add_left _ _)
  | x :: ds, es, h, h2 => by
    have hw := h.wt
    rw [PyData.weightAll] at hw
    have ht : BdL k (w - (x.weight + 1)) ds := ⟨h.tail.ok, h.tail.dp, by omega⟩
    have hx : Bd k x.weight x := ⟨h.head.ok, h.head.dp, Nat.le_refl _⟩
    exact (BdL.cons hx (BdL.append ht h2)).mono (Nat.le_refl _) (by omega)
theorem BdL.drop {k w : Nat} : ∀ {ds : List PyData} (n : Nat), BdL k w ds → BdL k w (ds.drop n)
  | [], n, h => by rw [List.drop_nil]; exact h
  | _ :: _, 0, h => h
  | _ :: ds, n + 1, h => BdL.drop n h.tail
theorem BdL.take {k w : Nat} : ∀ {ds : List PyData} (n : Nat), BdL k w ds → BdL k w (ds.take n)
  | [], n, h => by rw [List.take_nil]; exact h
  | _ :: _, 0, h => BdL.nil
  | x :: ds, n + 1, h => by
    have hw := h.wt
    rw [PyData.weightAll] at hw
    have ht : BdL k (w - (x.weight + 1)) ds := ⟨h.tail.ok, h.tail.dp, by omega⟩
    have hx : Bd k x.weight x := ⟨h.head.ok, h.head.dp, Nat.le_refl _⟩
    exact (BdL.cons hx (BdL.take n ht)).mono (Nat.le_refl _) (by omega)
theorem BdL.cut {k w : Nat} {ds : List PyData} (h : BdL k w ds) (l o : Option Int) : BdL k w (cutA ds l o) := (h.drop _).take _
theorem BdL.reverse {k w : Nat} : ∀ {ds : List PyData}, BdL k w ds → BdL k w ds.reverse
  | [], h => h
  | x :: ds, h => by
    have hw := h.wt
    rw [PyData.weightAll] at hw
    have ht : BdL k (w - (x.weight + 1)) ds := ⟨h.tail.ok, h.tail.dp, by omega⟩
    have hx : Bd k x.weight x := ⟨h.head.ok, h.head.dp, Nat.le_refl _⟩
    rw [List.reverse_cons]
    exact (BdL.append (BdL.reverse ht) (BdL.cons hx (BdL.nil (w := 0)))).mono (Nat.le_refl _) (by omega)
theorem BdL.len {k w : Nat} : ∀ {ds : List PyData}, BdL k w ds → ds.length ≤ w
  | [], _ => Nat.zero_le _
  | x :: ds, h => by
    have hw := h.wt
    rw [PyData.weightAll] at hw
    have ht : BdL k (w - (x.weight + 1)) ds := ⟨h.tail.ok, h.tail.dp, by omega⟩
    have := BdL.len ht
    rw [List.length_cons]
    omega
theorem Bd.none {k w : Nat} : Bd k w .none := ⟨rfl, by rw [PyData.depth]; exact Nat.zero_le _, by rw [PyData.weight]; exact Nat.zero_le _⟩
theorem Bd.bool {k w : Nat} (b : Bool) : Bd k w (.bool b) := ⟨rfl, by rw [PyData.depth]; exact Nat.zero_le _, by rw [PyData.weight]; exact Nat.zero_le _⟩
theorem Bd.dict0 {k w : Nat} : Bd (k + 1) w (.dict []) := ⟨rfl, by simp [PyData.depth, PyData.depthKv], by simp [PyData.weight, PyData.weightKv]⟩
theorem Bd.int {k : Nat} {i : Int} (h : Small i) : Bd k 81 (.int i) := ⟨by rw [okS, decide_eq_true h.1, decide_eq_true h.2]; rfl, by rw [PyData.depth]; exact Nat.zero_le _, int_weight h⟩
theorem Bd.str {k : Nat} {z : Str} (h : z.length ≤ 8) (h2 : PyData.strOk z = true) : Bd k 8 (.str z) := ⟨by rw [okS, decide_eq_true h, h2]; rfl, by rw [PyData.depth]; exact Nat.zero_le _, by rw [PyData.weight]; exact h⟩
theorem Bd.row {r : Row} (h1 : Small r.1) (h2 : Lbl r) (h3 : Small r.2.2) : Bd 1 174 (rowD r) := by
  unfold rowD
  exact (BdL.cons (k := 0) (Bd.int h1) (BdL.cons (Bd.str h2.1 h2.2) (BdL.cons (Bd.int h3) (BdL.nil (w := 0))))).tup.mono (Nat.le_refl _) (by decide)
theorem BdL.rows : ∀ {R : List Row}, (∀ r ∈ R, Small r.1 ∧ Lbl r ∧ Small r.2.2) → BdL 1 (175 * R.length) (R.map rowD)
  | [], _ => BdL.nil
  | r :: R, h => by
    obtain ⟨a, b, c⟩ := h r List.mem_cons_self
    exact (BdL.cons (Bd.row a b c) (BdL.rows fun x hx => h x (List.mem_cons_of_mem _ hx))).mono (Nat.le_refl _) (by rw [List.length_cons]; omega)
mutual
theorem okS_show : ∀ d : PyData, okS d = true → d.showable = true ∧ PyData.leavesShort 30 d = true
  | .none, _ => ⟨rfl, rfl⟩
  | .bool _, _ => ⟨rfl, rfl⟩
  | .int i, h => by
    rw [okS, Bool.and_eq_true] at h
    have hs : Small i := ⟨of_decide_eq_true h.1, of_decide_eq_true h.2⟩
    have h1 := int_log hs
    have h2 := int_shown hs
    rw [PyData.showable, PyData.leavesShort]
    exact ⟨decide_eq_true (by omega), decide_eq_true h2⟩
  | .str z, h => by
    rw [okS, Bool.and_eq_true] at h
    have h2 := h.2
    unfold PyData.strOk at h2
    rw [Array.all_eq_true_iff_forall_mem] at h2
    rw [PyData.showable, PyData.leavesShort]
    refine ⟨rfl, ?_⟩
    rw [List.all_eq_true]
    intro c hc
    have := of_decide_eq_true (h2 c (Array.mem_toList_iff.mp hc))
    exact decide_eq_true (Nat.lt_trans this (by decide))
  | .list ds, h => by
    rw [okS] at h
    rw [PyData.showable, PyData.leavesShort]
    exact okS_showAll ds h
  | .tuple ds, h => by
    rw [okS] at h
    rw [PyData.showable, PyData.leavesShort]
    exact okS_showAll ds h
  | .dict kvs, h => by
    rw [okS] at h
    cases kvs with
    | nil => exact ⟨rfl, rfl⟩
    | cons p r => cases h
theorem okS_showAll : ∀ ds : List PyData, okSAll ds = true → PyData.showableAll ds = true ∧ PyData.leavesShortAll 30 ds = true
  | [], _ => ⟨rfl, rfl⟩
  | d :: ds, h => by
    rw [okSAll, Bool.and_eq_true] at h
    have h1 := okS_show d h.1
    have h2 := okS_showAll ds h.2
    rw [PyData.showableAll, PyData.leavesShortAll, h1.1, h1.2, h2.1, h2.2]
    exact ⟨rfl, rfl⟩
end
theorem Bd.shows {k w : Nat} {d : PyData} (h : Bd k w d) (hk : k ≤ 60) (hw : w ≤ 100000) : d.showable = true ∧ d.depth ≤ 60 ∧ d.shown.length ≤ sizeLine := by
  have h1 := okS_show d h.ok
  have h2 := h.dp
  have h3 := h.wt
  refine ⟨h1.1, by omega, ?_⟩
  have h5 := PyData.shown_le 30 (by decide) d h1.2
  have h6 : (30 + 2) * d.weight ≤ 32 * 100000 := Nat.mul_le_mul_left _ (by omega)
  rw [sizeLine_eq]
  omega
end K24

/-! x % n of an int or a bool; a tuple * 0, * 1; {} as data; bool(int). -/
namespace OddX
open PySem PySem.Spec PyProof.Rows
open AutoSeq1 (wpAny_loadPart')
theorem mod_bool_int (a : Bool) (b : Int) (u : Tok) (hc0 : ¬(b == 0) = true) : Gives (Builtin.«int.__mod__» ⟨[.bool a, .int b u], []⟩) (.int ((if a = true then (1 : Int) else 0).fmod b)) :=
  .of_wp fun M A E s Q h => by obtain ⟨hp, g, d, tk, os⟩ := s; wp_walk; exact ⟨_, rfl, h⟩
theorem mul_same (l : Addr) (items : Array Value) (n : Nat) (dd : Option Addr) (sl : Array (Option Value)) (x : Int) (u : Tok) (c0 : (decide (x < -(2 ^ 63)) || decide (x ≥ 2 ^ 63)) = false) (c1 : (items.isEmpty || x == 1) = true) :
    Meets (Builtin.«tuple.__mul__» ⟨[.ref l, .int x u], []⟩) (fun _ R s => s.heap.get? l = some { cls := .type "tuple", dict := dd, data := .seq items n, slots := sl } ∧ R (.ok (.ret (.ref l))) s) :=
  .of_wp fun prog w A R s h => by
    obtain ⟨hp, g, d, tk, os⟩ := s
    obtain ⟨hl, h⟩ := h
    have f1 := AutoSeq1.idx_int
    wp_walk using wpAny_loadPart' hl
    repeat (first
      | (refine wpAny_ite_false (decide_eq_false (by rw [c0]; exact Bool.false_ne_true)) ?_; wp_walk using wpAny_loadPart' hl)
      | (refine wpAny_ite_true (decide_eq_true c1) ?_; wp_walk using wpAny_loadPart' hl))
    exact ⟨_, rfl, h⟩
theorem mul_none (l : Addr) (items : Array Value) (n : Nat) (dd : Option Addr) (sl : Array (Option Value)) (x : Int) (u : Tok) (c0 : (decide (x < -(2 ^ 63)) || decide (x ≥ 2 ^ 63)) = false) (c1 : (items.isEmpty || x == 1) = false) (c2 : (decide (x ≤ 0) || items.isEmpty) = true) :
    Meets (Builtin.«tuple.__mul__» ⟨[.ref l, .int x u], []⟩) (fun _ R s => s.heap.get? l = some { cls := .type "tuple", dict := dd, data := .seq items n, slots := sl } ∧
      R (.ok (.ret (Value.ref s.heap.objs.size))) { s with heap := s.heap.push { cls := Value.type "tuple", data := Data.seq #[] }, toks := s.toks }) :=
  .of_wp fun prog w A R s h => by
    obtain ⟨hp, g, d, tk, os⟩ := s
    obtain ⟨hl, h⟩ := h
    have f1 := AutoSeq1.idx_int
    wp_walk using wpAny_loadPart' hl
    repeat (first
      | (refine wpAny_ite_false (decide_eq_false (by rw [c0]; exact Bool.false_ne_true)) ?_; wp_walk using wpAny_loadPart' hl)
      | (refine wpAny_ite_false (decide_eq_false (by rw [c1]; exact Bool.false_ne_true)) ?_; wp_walk using wpAny_loadPart' hl)
      | (refine wpAny_ite_true (decide_eq_true c2) ?_; wp_walk using wpAny_loadPart' hl))
    exact ⟨_, rfl, h⟩
end OddX
namespace K24
open PySem PySem.Spec PyProof.Rows L2 KS GL LB ML
section
variable {X : Cx}
def rRep01 (K : PySem.W.Frag) : R2 := fun x y H Q => ∃ l k xs, x = .ref l ∧ y = .int k ∧ (k = 0 ∨ k = 1) ∧ SqT K H l xs ∧ (xs = [] ∨ k = 1 → Q (.ref l) H) ∧ (xs ≠ [] → k = 0 → ∀ p, H p = none → Q (.ref p) (upd H p (.tup [])))
theorem op_rep01 : OpR X (binaryOp .Mult) (rRep01 X.K) := by
  intro pins s σ H x y v u Q I rx ry h
  obtain ⟨l, k, xs, rfl, rfl, hk, hT, q1, q2⟩ := h
  cases rx
  obtain ⟨t, rfl⟩ := ry
  obtain ⟨its, r, ⟨⟨cls, dd, data, sl⟩, ho, hc, n, hd⟩, hs⟩ := I.tuple hT
  simp only at hc hd
  subst hc hd
  have hle : its.length = xs.length := r.length.symm
  have c0 : (decide (k < -(2 ^ 63)) || decide (k ≥ 2 ^ 63)) = false := by
    rw [decide_eq_false (by omega), decide_eq_false (by omega)] <;> rfl
  have road : ∀ {R : Result → Shared → Prop}, True := trivial
  cases c1 : (its.toArray.isEmpty || k == 1) with
  | true =>
    have hq : xs = [] ∨ k = 1 := by
      rw [Bool.or_eq_true] at c1
      rcases c1 with h | h
      · refine .inl (List.eq_nil_of_length_eq_zero ?_)
        have : its = [] := by simpa using h
        rw [← hle, this]
        rfl
      · exact .inr (by simpa using h)
    refine wpAny_binaryOp_repeat_ref (T := "tuple") (U := "int") (by decide) ⟨_, ho, rfl⟩ (fun s' => typeIs_int s' k t) noFill_tuple_mul F.fills_int_mul F.slot_int_rmul repeat_tuple F.slot_int_index.lookup
      (call_meets F.slot_int_rmul (typeIs_int s k t) F.entry_int_rmul (F.args_int_rmul_2 _ _) (int_rmul_tuple k t l its.toArray n dd sl)
        ⟨ho, rfl, ⟨_, ho, rfl⟩, call_meets F.slot_tuple_mul ⟨_, ho, rfl⟩ F.entry_tuple_mul (F.args_tuple_mul_2 _ _) (OddX.mul_same l its.toArray n dd sl k t c0 c1) ⟨ho, ?_⟩⟩)
    exact ⟨.ref l, H, I, rfl, q1 hq⟩
  | false =>
    rw [Bool.or_eq_false_iff] at c1
    have hne : xs ≠ [] := fun e => by
      rw [e] at hle
      have : its = [] := List.eq_nil_of_length_eq_zero hle
      rw [this] at c1
      cases c1.1
    have hk0 : k = 0 := by
      have : k ≠ 1 := by simpa using c1.2
      omega
    have c1' : (its.toArray.isEmpty || k == 1) = false := by rw [Bool.or_eq_false_iff]; exact c1
    have c2 : (decide (k ≤ 0) || its.toArray.isEmpty) = true := by rw [decide_eq_true (by omega)]; rfl
    refine wpAny_binaryOp_repeat_ref (T := "tuple") (U := "int") (by decide) ⟨_, ho, rfl⟩ (fun s' => typeIs_int s' k t) noFill_tuple_mul F.fills_int_mul F.slot_int_rmul repeat_tuple F.slot_int_index.lookup
      (call_meets F.slot_int_rmul (typeIs_int s k t) F.entry_int_rmul (F.args_int_rmul_2 _ _) (int_rmul_tuple k t l its.toArray n dd sl)
        ⟨ho, rfl, ⟨_, ho, rfl⟩, call_meets F.slot_tuple_mul ⟨_, ho, rfl⟩ F.entry_tuple_mul (F.args_tuple_mul_2 _ _) (OddX.mul_none l its.toArray n dd sl k t c0 c1' c2) ⟨ho, ?_⟩⟩)
    refine ⟨.ref s.heap.objs.size, _, I.laid (t' := s.toks) (o := .tup []) (fun b ob q => Heap.get?_push_of_some _ q) (Nat.le_refl _) ?_, rfl, q2 hne hk0 _ (I.hok.fresh (Nat.le_refl _))⟩
    exact ⟨Nat.zero_le _, [], .nil, IsTup.new _ _⟩
def rModA : R2 := fun x y H Q => ∃ i : Int, (x = .int i ∨ ∃ b : Bool, x = .bl b ∧ i = if b = true then 1 else 0) ∧ y = .int 2 ∧ Q (.int (i % 2)) H
theorem op_modA : OpR X (binaryOp .Mod) rModA := by
  intro pins s σ H x y v u Q I rx ry h
  obtain ⟨i, hx, rfl, q⟩ := h
  rcases hx with rfl | ⟨b, rfl, rfl⟩
  · exact op_mod pins s σ H (.int i) (.int 2) v u Q I rx ry ⟨i, 2, rfl, rfl, (show (0 : Int) < 2 by decide), q⟩
  · cases rx
    obtain ⟨t, rfl⟩ := ry
    refine binaryOp_left_gives (op := .Mod) (T := "bool") (U := "int") (by decide) rfl (fun s' => typeIs_int s' 2 t) F.fills_bool_mod F.fills_int_mod F.sub_int_bool F.slot_bool_mod F.slot_int_rmod F.entry_int_mod (F.args_int_mod_2 _ _) (OddX.mod_bool_int b 2 t (by decide)) trivial ?_
    rw [Int.fmod_eq_emod_of_nonneg _ (by omega)]
    exact ⟨.int _, H, I.tok _, ⟨_, rfl⟩, q⟩
end
section
variable {K : PySem.W.Frag} {ρ : MS} {Q : Rt → MS → Prop} {r1 r2 : Rt}
theorem op_rep01_ {ds : List PyData} {k : Int} (h1 : rd K ρ r1 (.tuple ds)) (h2 : rd K ρ r2 (.int k)) (hk : k = 0 ∨ k = 1) (q : Q (.val (dat K (.tuple (if k = 1 then ds else [])))) ρ) : opR (rRep01 K) r1 r2 ρ Q := by
  intro σ H0 H G v1 v2 f1 f2 kk S e1 e2 _ _ _ hk'
  obtain ⟨a, xs, rfl, ha, hx⟩ := h1.tup S e1
  obtain rfl := h2.int S e2
  have S1 : Sat ρ σ H0 H G := S.frame fun _ => .inl
  refine ⟨a, k, xs, rfl, rfl, hk, sameT S.same ha, fun h => ?_, fun hne h0 p hp => ?_⟩
  · have e : (if k = 1 then ds else []) = ds := by
      rcases h with h | h
      · subst h
        have := hx.len
        have : ds = [] := List.eq_nil_of_length_eq_zero this.symm
        subst this
        split <;> rfl
      · rw [if_pos h]
    rw [e] at q
    exact hk' _ _ _ _ _ _ q (post_pure S1 (.tup ha hx))
  · rw [if_neg (by omega)] at q
    exact hk' _ _ _ _ _ _ q (post_new S1 hp (.tup (.inl (.inl upd_same)) .nil))
def numD : PyData → Int
  | .int i => i
  | .bool b => if b = true then 1 else 0
  | _ => 0
theorem op_modA_ {d : PyData} (h1 : rd K ρ r1 d) (hd : isInt d = true) (h2 : rd K ρ r2 (.int 2)) (q : Q (.val (dat K (.int (numD d % 2)))) ρ) : opR rModA r1 r2 ρ Q :=
  op_sc h1 h2 (fun H v1 v2 k e1 e2 hk => by
    cases e2
    cases d with
    | int i =>
      cases e1
      exact ⟨i, .inl rfl, rfl, hk _ (.int _)⟩
    | bool b =>
      cases e1
      exact ⟨_, .inr ⟨b, rfl, rfl⟩, rfl, hk _ (.int _)⟩
    | _ => cases hd) q
theorem un_boolI {i : Int} (h : rd K ρ r1 (.int i)) (q : Q (.val (dat K (.bool (i != 0)))) ρ) : unR (fun v H k => (∃ i, [v] = [V.int i] ∧ k (.bl (i != 0)) H) ∨ ∃ b, [v] = [V.bl b] ∧ k (.bl b) H) r1 ρ Q :=
  un_sc h (fun H v1 k e1 hk => by
    cases e1
    exact .inl ⟨i, rfl, hk _ (.bl _)⟩) q
end
/-- {} as data -/
def tDct : TE := fun _ H Q => ∀ p, H p = none → Q (.ref p) (upd H p (.dK []))
theorem pe_dct0 {X : Cx} {pos : Pos} : PE X (.Dict [] [] pos) tDct := pe_dnewK
section
variable {K : PySem.W.Frag} {ρ : MS} {Q : Rt → MS → Prop}
theorem ev_dct0 (q : Q (.val (dat K (.dict []))) ρ) : ev tDct ρ Q := by
  intro σ H0 H G k S hk
  intro p hp
  exact hk _ _ _ _ _ _ q (post_new S hp (Da.dct (kvs := []) (ds := []) upd_same .nil))
end
/-- a, b, c = e, f, g of what stands -/
theorem x_par3 {ρ : MS} {i j l np : Nat} {ta tb tc : TE} {n b c : MS → Prop} {r : Rt → MS → Prop} (hi : np ≤ i) (hj : np ≤ j) (hl : np ≤ l)
    (h : ev ta ρ fun r1 ρ1 => ev tb ρ1 fun r2 ρ2 => ev tc ρ2 fun r3 ρ3 => ∃ P1 P2 P3, r1 = .val (pu P1) ∧ r2 = .val (pu P2) ∧ r3 = .val (pu P3) ∧ n (((ρ3.set i (some (pu P1))).set j (some (pu P2))).set l (some (pu P3)))) : ex np (tPar3 i j l (tCons ta (tCons tb (tCons tc tNil)))) ρ ⟨n, r, b, c⟩ := by
  intro σ H0 H G D S kn _ _ _
  have h' : evA (tCons ta (tCons tb (tCons tc tNil))) ρ fun rs ρ3 => ∃ P1 P2 P3, rs = [.val (pu P1), .val (pu P2), .val (pu P3)] ∧ n (((ρ3.set i (some (pu P1))).set j (some (pu P2))).set l (some (pu P3))) :=
    evA_cons (ev_mono h fun r1 ρ1 h1 => evA_cons (ev_mono h1 fun r2 ρ2 h2 => evA_cons (ev_mono h2 fun r3 ρ3 ⟨P1, P2, P3, e1, e2, e3, q⟩ => evA_nil ⟨P1, P2, P3, by rw [e1, e2, e3], q⟩)))
  refine h' σ H0 H G _ S fun rs ρ1 vs f H1 H1' ⟨P1, P2, P3, e, q⟩ p => ?_
  subst e
  obtain ⟨v1, vs1, f1, g1, rfl, h1, ⟨v2, vs2, f2, g2, rfl, h2, ⟨v3, vs3, f3, g3, rfl, h3, ⟨rfl, h4⟩, u3, d3⟩, u2, d2⟩, u1, d1⟩ := p.rt
  have S1 : Sat ρ1 σ H1 H1' fun a => G a ∨ False := p.sat.frame fun a ha => .inl (ha.resolve_right id)
  have S2 := (S1.set (i := i) (R := pu P1) (G' := fun _ => False) ⟨h1.1, fun _ h => h⟩ fun _ h => h.elim).frame (G' := fun a => G a ∨ False) fun a ha => ha.resolve_right id
  have S3 := (S2.set (i := j) (R := pu P2) (G' := fun _ => False) ⟨h2.1, fun _ h => h⟩ fun _ h => h.elim).frame (G' := fun a => G a ∨ False) fun a ha => ha.resolve_right id
  have S4 := S3.set (i := l) (R := pu P3) (G' := fun _ => False) ⟨h3.1, fun _ h => h⟩ fun _ h => h.elim
  exact ⟨v1, v2, v3, rfl, kn _ _ H1 H1' q ((take_set hl).trans ((take_set hj).trans (take_set hi))) p.ext S4⟩
end K24

/-! t[::-1] of a tuple. -/
namespace HT
open PySem PySem.Spec PyProof.Rows
section
variable {prog : Program} {w : World} {A : Around} {E : Value → Shared → Prop} {s : Shared}
theorem places_rev (n : Nat) : Builtin.Slice.slicePlaces ((n : Int) - 1) (-1) (-1) = n := by
  unfold Builtin.Slice.slicePlaces
  rw [if_neg (by decide)]
  by_cases h : (n : Int) - 1 > -1
  · rw [if_pos h]
    have : ((n : Int) - 1 - -1 - 1) / - -1 + 1 = n := by
      rw [show (- -1 : Int) = 1 from rfl, Int.ediv_one]
      omega
    rw [this]
    rfl
  · rw [if_neg h]
    omega
theorem pick_rev (xs : Array Value) : ((List.range xs.size).filterMap fun (m : Nat) => xs[(((xs.size : Int) - 1) + (m : Int) * (-1)).toNat]?).toArray = xs.toList.reverse.toArray := by
  have ef : (fun m : Nat => xs[(((xs.size : Int) - 1) + (m : Int) * (-1)).toNat]?) = fun m => xs[xs.size - 1 - m]? := by
    funext m
    have : (((xs.size : Int) - 1) + (m : Int) * (-1)).toNat = xs.size - 1 - m := by omega
    rw [this]
  have e3 : ((List.range xs.size).map fun m => xs.size - 1 - m).filterMap (xs[·]?) = (List.range xs.size).filterMap fun m => xs[xs.size - 1 - m]? := by
    rw [List.filterMap_map]
    rfl
  rw [ef, ← e3, PySem.W.krv_range, List.filterMap_reverse, PySem.W.krv_all]
theorem getItem_tuple_rev {t sl : Addr} {items : Array Value} {vl vu vs : Value} {Q : Value → Shared → Prop} (ht : IsTup s.heap t items) (hs : s.heap.IsSliceOf sl vl vu vs) (pl : IsPart vl none) (pu : IsPart vu none) (ps : IsPart vs (some (-1)))
    (h : Q (.ref s.heap.objs.size) { s with heap := s.heap.push { cls := .type "tuple", data := .seq items.toList.reverse.toArray } }) (hsz : items.size ≤ sizeLine) : wpAny (model prog w) A (getItem (.ref t) (.ref sl)) Q E s := by
  obtain ⟨os, hos, hcs, hds⟩ := id hs
  have hT : s.TypeIs (.ref sl) "slice" := ⟨os, hos, hcs⟩
  have fits : sizeOk (.seq items.toList.reverse.toArray) := by
    show items.toList.reverse.toArray.size ≤ sizeLine
    rw [List.size_toArray, List.length_reverse, Array.length_toList]
    exact hsz
  unfold getItem
  try with_reducible refine wpAny_holding ?_
  refine wpAny_bind (wpAny_sequenceKey ht.typeIs (by decide) ?_)
  refine wpAny_bind (wpAny_callSpecial?_slot (name := Str.ofString "__getitem__") ht.typeIs PyProof.Rows.slot_tuple_getitem (wpAny_call_entry PyProof.Rows.slot_tuple_getitem ht.typeIs PyProof.Rows.entry_tuple_getitem ?_ (PyProof.Rows.args_tuple_getitem _ _)))
  show wpAny _ _ (Builtin.Tuple.tupleItemsOf (.ref t) >>= _) _ _ s
  refine wpAny_bind (tupleItemsOf_ ht (wpAny_bind (wpAny_typeOf hT ?_)))
  rw [if_pos (by decide)]
  have applied : ∀ {Q : Int × Int × Nat → Shared → Prop}, Q ((items.size : Int) - 1, -1, items.size) s → wpAny (model prog w) A.in1 (Builtin.Slice.sliceApplied (.ref sl) (pure (items.size : Int))) Q E s := fun {Q} q => by
    unfold Builtin.Slice.sliceApplied Builtin.Slice.sliceFields
    refine wpAny_bind (wpAny_bind (wpAny_field hos hds (x := vl) rfl (wpAny_bind (wpAny_field hos hds (x := vu) rfl (wpAny_bind (wpAny_field hos hds (x := vs) rfl (wpAny_pure ?_)))))))
    refine wpAny_bind (slicePart_ ps ?_)
    show wpAny _ _ (if ((-1 : Int) == 0) = true then _ else _) _ _ s
    rw [if_neg (by decide)]
    refine wpAny_bind (slicePart_ pl (wpAny_bind (slicePart_ pu (wpAny_bind (wpAny_pure (wpAny_pure ?_))))))
    show Q ((items.size : Int) - 1, -1, Builtin.Slice.slicePlaces ((items.size : Int) - 1) (-1) (-1)) s
    rw [places_rev]
    exact q
  refine wpAny_bind (applied ?_)
  show wpAny _ _ (if (((items.size : Int) - 1) == 0 && (-1 : Int) == 1 && items.size == items.size) = true then _ else _) _ _ s
  have no : (((items.size : Int) - 1) == 0 && (-1 : Int) == 1 && items.size == items.size) = false := by
    have e : ((-1 : Int) == 1) = false := rfl
    rw [e, Bool.and_false, Bool.false_and]
  rw [if_neg (by rw [no]; exact Bool.false_ne_true), pick_rev]
  first
    | exact wpAny_bind (m := Builtin.Tuple.tupleExact _) (wpAny_newObj_type (wpAny_pure ⟨_, rfl, wpAny_pure h⟩) fits)
    | exact wpAny_bind (m := Builtin.Tuple.tupleExact _) (wpAny_newObj_type (wpAny_bind (wpAny_pure (wpAny_pure ⟨_, rfl, wpAny_pure h⟩))) fits)
    | exact wpAny_bind (wpAny_bind (m := Builtin.Tuple.tupleExact _) (wpAny_newObj_type (wpAny_pure (wpAny_pure ⟨_, rfl, wpAny_pure h⟩)) fits))
    | exact wpAny_bind (wpAny_bind (m := Builtin.Tuple.tupleExact _) (wpAny_newObj_type (wpAny_pure ⟨_, rfl, wpAny_pure h⟩) fits))
end
end HT
namespace LB
open PySem PySem.Spec PyProof.Rows L2 KS GL
def tRevT (K : PySem.W.Frag) (te : TE) : TE := fun σ H Q => te σ H fun x H1 => ∃ a xs, x = .ref a ∧ SqT K H1 a xs ∧ ∀ p, H1 p = none → Q (.ref p) (upd H1 p (.tup xs.reverse))
theorem pe_revT {X : Cx} {e : Expr} {te : TE} {k : Nat} {p1 p2 p3 pos : Pos} (he : PE X e te) : PE X (.Subscript e (.Slice none none (some (.UnaryOp .USub (.Constant (.int 1) k p1) p2)) p3) pos) (tRevT X.K te) := by
  refine ⟨fun pins s σ H Q I h => Subscript_ (thn (he.run pins s σ H _ I h) fun v s1 ⟨x, H1, I1, r1, a, xs, ex, hx, q⟩ => ?_)⟩
  subst ex
  cases r1
  have step : PO X (some (.UnaryOp .USub (.Constant (.int 1) k p1) p2)) (tPart (tUn (rU fun i => .int (-i)) (tC (.int 1)))) := po_some (pe_un un_neg pe_int)
  refine wpAny_Slice (thn (po_none.run pins s1 σ H1 (fun o H2 => o = none ∧ H2 = H1) I1 ⟨rfl, rfl⟩) fun vl s2 ⟨l, H2, I2, pl, el, e2⟩ => thn (po_none.run pins s2 σ H2 (fun o H3 => o = none ∧ H3 = H2) I2 ⟨rfl, rfl⟩) fun vu s3 ⟨u, H3, I3, pu, eu, e3⟩ =>
    thn (step.run pins s3 σ H3 (fun o H4 => o = some (-1) ∧ H4 = H3) I3 ⟨1, rfl, -1, rfl, rfl, rfl⟩) fun vs s4 ⟨o, H4, I4, ps, eo, e4⟩ => ?_)
  subst el e2 eu e3 eo e4
  have I5 : Inv X pins σ H4 { s4 with heap := s4.heap.push { cls := .type "slice", data := .fields #[vl, vu, vs] } } := I4.kept (t' := s4.toks) fun b ob q => Heap.get?_push_of_some _ q
  obtain ⟨its, r, ht, hz⟩ := I5.tuple hx
  have hlen := r.length
  show wpAny (model X.prog X.w) X.A (subscriptTail e (.Slice none none (some (.UnaryOp .USub (.Constant (.int 1) k p1) p2)) p3) (.ref a) (.ref s4.heap.objs.size)) (EP X pins σ Q) X.xe { s4 with heap := s4.heap.push { cls := .type "slice", data := .fields #[vl, vu, vs] } }
  refine tail_any (ops := [.ref a, .ref s4.heap.objs.size]) ht.typeIs PyProof.Rows.slot_tuple_getitem.lookup ?_ (by with_unfolding_all rfl)
  refine HT.getItem_tuple_rev ht (Heap.IsSliceOf.new _ vl vu vs) pl pu ps ?_ (by rw [List.size_toArray]; omega)
  refine ⟨.ref _, _, I5.laid (t' := s4.toks) (o := .tup xs.reverse) (fun b ob q => Heap.get?_push_of_some _ q) (Nat.le_refl _) ?_, rfl, q _ (I5.hok.fresh (Nat.le_refl _))⟩
  exact ⟨by rw [List.length_reverse]; exact hz, its.reverse, r.reverse, _, Heap.get?_push_size _ rfl, rfl, 0, rfl⟩
end LB

/-! f(b = .., a = ..); repr of a bool; xs * n; t[::-1]. -/
namespace LB
open PySem PySem.Spec PyProof.Rows L2 KS GL ML
/-- the two arguments, the second one made first -/
def tSwap (ta tb : TE) : TA := fun σ H Q => ta σ H fun u H1 => tb σ H1 fun v H2 => Q [v, u] H2
structure HasM2 (P : Program) (w : World) (K : PySem.W.Frag) (mg : Str → Option Value) (base : Heap) (x : Str) (k : Nat) (y z : Str) (sp : Sp) : Prop where
  ex : ∃ f fd, FnG P w K mg base CX0 k f fd [y, z] sp ∧ mg x = some (.ref f) ∧ PySem.W.keepIn K (.ref f) = true ∧ ∀ (s : Shared) (u v : Value), BindsTo s fd ⟨[], [(z, u), (y, v)]⟩ [(y, v), (z, u)]
theorem pe_hg2 {X : Cx} {x y z : Str} {k : Nat} {sp : Sp} {e1 e2 : Expr} {ta tb : TE} {p k1 k2 pos : Pos} (h : HasM2 X.prog X.w X.K X.mg X.base x k y z sp) (hr : RoomG k X.A) (hg : Gl X x) (ha : PE X e1 ta) (hb2 : PE X e2 tb) (hdb : (x == ("__debug__" : Str)) = false := by decide)
    (hall : (backToKw pos (keywordEach [⟨some z, e1, k1⟩, ⟨some y, e2, k2⟩] X.env)).all (·.1.isSome) = true := by rfl) (hks : (backToKw pos (keywordEach [⟨some z, e1, k1⟩, ⟨some y, e2, k2⟩] X.env)).filterMap (·.1) = [z, y] := by rfl)
    (hpl : ((backTo pos (starEach [] X.env)).any (·.1) || (backToKw pos (keywordEach [⟨some z, e1, k1⟩, ⟨some y, e2, k2⟩] X.env)).any (·.1.isNone)) = false := by rfl) :
    PE X (.Call (.Name x p) [] [⟨some z, e1, k1⟩, ⟨some y, e2, k2⟩] pos) (tCall sp [] E0 (tSwap ta tb)) := by
  obtain ⟨f, fd, F, hm, hk, hb⟩ := h.ex
  refine ⟨fun pins s σ H Q I h => wpAny_Call_Name_kw (ld_glob I hg hm ?_ hdb)⟩
  refine PySem.W.callWith_KW0 (h₀ := X.base) I.ok.mod.kin hk hall ?_ hpl
  refine thn ((pk_cons ha (pk_cons hb2 pk_nil)).run pos pins s σ H (fun vs H1 => match vs with | [u, v] => sp [v, u] H1 Q E0 | _ => False) I h) fun ws s2 ⟨zs, H2, I2, rz, q2⟩ => ⟨I2.kIn, ?_⟩
  match zs, rz, q2 with
  | [u, v], rz, q2 =>
    obtain ⟨⟩ | ⟨r1, r2⟩ := rz
    obtain ⟨⟩ | ⟨r2, r3⟩ := r2
    cases r3
    rw [hks]
    refine wpAny_call (codeAny_mono (F.run X.A X.stack s2 H2 ⟨[], [(z, _), (y, _)]⟩ [_, _] [v, u] Q E0 hr I2.env0 (hb s2 _ _) (.cons r2 (.cons r1 .nil)) q2) fun r s' hq => ?_)
    have fin := end_fn pass0 I2 hq
    cases r with
    | error er => exact fin
    | ok fl => cases fl <;> exact fin
section
variable {K : PySem.W.Frag} {ρ : MS} {ta tb : TE}
theorem evA_swap2 {Q : List Rt → MS → Prop} (h : ev ta ρ fun r1 ρ1 => ∃ P1 : Pd, r1 = .val (pu P1) ∧ ev tb ρ1 fun r2 ρ2 => ∃ P2 : Pd, r2 = .val (pu P2) ∧ Q [.val (pu P2), .val (pu P1)] ρ2) : evA (tSwap ta tb) ρ Q := by
  intro σ H0 H G k S hk
  refine h σ H0 H G _ S fun r1 ρ1 u f1 H1 H1' ⟨P1, e1, h1⟩ p1 => ?_
  subst e1
  refine h1 σ H1 H1' G _ (p1.sat.frame fun _ => .inl) fun r2 ρ2 v f2 H2 H2' ⟨P2, e2, q⟩ p2 => ?_
  subst e2
  exact hk _ ρ2 [v, u] (fun _ => False) H2 H2' q ⟨p1.ext.trans p2.ext, ⟨v, [u], fun _ => False, fun _ => False, rfl, ⟨p2.rt.1, fun _ h => h⟩, ⟨u, [], fun _ => False, fun _ => False, rfl, ⟨P1.mono p1.rt.1 p2.ext.s0, fun _ h => h⟩, ⟨rfl, fun _ h => h⟩, fun _ => by simp, fun _ h => h.elim⟩, fun _ => by simp, fun _ h => h.elim⟩,
    fun _ h => h.elim, p2.sat.frame fun a ha => .inl (ha.resolve_right id)⟩
end
/-! ### repr of a bool -/
def boolS (b : Bool) : Str := if b then "True" else "False"
theorem boolS_inj {a b : Bool} (h : boolS a = boolS b) : a = b := by
  cases a <;> cases b <;> first | rfl | exact absurd h (by decide +kernel)
def rReprB : List V → Hp → VK → Prop := fun vs H Q => ∃ b : Bool, vs = [.bl b] ∧ Q (.str (boolS b)) H
theorem cr_reprB {X : Cx} : CallR X (.builtin "repr") rReprB := by
  intro pins s σ H xs us Q I r h
  obtain ⟨b, rfl, q⟩ := h
  obtain ⟨⟩ | ⟨r1, r2⟩ := r
  cases r2
  obtain rfl := (show _ = Value.bool b from r1)
  exact PySem.P.repr_of_bool ⟨.str (boolS b), H, I.tok _, ⟨_, rfl⟩, q⟩
theorem un_reprB {K : PySem.W.Frag} {ρ : MS} {Q : Rt → MS → Prop} {r1 : Rt} {b : Bool} (h : rd K ρ r1 (.bool b)) (q : Q (.val (dat K (.str (boolS b)))) ρ) : unR (fun v H k => rReprB [v] H k) r1 ρ Q :=
  un_sc h (fun H v1 k e hk => by
    cases e
    exact ⟨b, rfl, hk _ (.str _)⟩) q
/-! ### xs * n, t[::-1] -/
theorem da_rep {K : PySem.W.Frag} {H : Hp} {xs : List V} {ds : List PyData} (h : DaAll K H xs ds) : ∀ n : Nat, DaAll K H (List.replicate n xs).flatten (List.replicate n ds).flatten
  | 0 => .nil
  | n + 1 => by
    rw [List.replicate_succ, List.replicate_succ, List.flatten_cons, List.flatten_cons]
    exact DaAll.append h (da_rep h n)
theorem op_rep_ {K : PySem.W.Frag} {ρ : MS} {Q : Rt → MS → Prop} {r1 r2 : Rt} {ds : List PyData} {n : Int} (h1 : rd K ρ r1 (.list ds)) (h2 : rd K ρ r2 (.int n)) (hn : -(2 ^ 63) ≤ n ∧ n < 2 ^ 63) (hl : ds.length * n.toNat ≤ sizeLine) (q : Q (.val (lo K (List.replicate n.toNat ds).flatten)) ρ) : opR rRep r1 r2 ρ Q := by
  intro σ H0 H G v1 v2 f1 f2 k S e1 e2 _ _ _ hk
  obtain ⟨a, xs, rfl, ha, hx⟩ := h1.list S e1
  obtain rfl := h2.int S e2
  refine ⟨a, n, xs, rfl, rfl, ha, hn.1, hn.2, by rw [hx.len]; exact hl, fun p hp => ?_⟩
  exact hk _ _ _ _ _ _ q (post_own (S.frame fun _ => .inl) hp (da_rep hx _))
theorem ev_revT {K : PySem.W.Frag} {ρ : MS} {Q : Rt → MS → Prop} {te : TE} (h : ev te ρ fun r ρ1 => ∃ ds, rd K ρ1 r (.tuple ds) ∧ Q (.val (dat K (.tuple ds.reverse))) ρ1) : ev (tRevT K te) ρ Q := by
  intro σ H0 H G k S hk
  refine h σ H0 H G _ S fun r ρ1 v f H1 H1' ⟨ds, hd, q⟩ p => ?_
  have S1 : Sat ρ1 σ H1 H1' G := p.sat.frame fun _ => .inl
  obtain ⟨a, xs, rfl, ha, hx⟩ := hd.tup p.sat p.rt
  refine ⟨a, xs, rfl, sqT_mono S1.same ha, fun t ht => ?_⟩
  have h0 := S1.same.free ht
  have P := post_new (o := .tup xs.reverse) S1 ht (d := .tuple ds.reverse) (.tup (.inl (.inl upd_same)) (DaAll.mono (same_upd h0) _ _ hx.reverse))
  exact hk _ _ _ _ _ _ q ⟨p.ext.trans P.ext, P.rt, P.dis, P.sat⟩
end LB

/-! _law_row_bent. -/
namespace K24
open PySem L2 KS GL LB K24m ML
open CH (outs sucs ChC ChartAt cf cf_arrows cf_states ChartOk spInit arrowB labelB)
open PySem.Spec hiding Row
open PyProof.Rows hiding cnt
open EqQ (rowIn op_inAny_ op_eqNil_)
def plainDs : List PyData := [.none, .str "a", .tuple [], .int 7, .dict []]
theorem plain_bd {k w : Nat} : ∀ d ∈ plainDs, Bd (k + 1) (w + 90) d := by
  intro d hd
  unfold plainDs at hd
  simp only [List.mem_cons, List.not_mem_nil, or_false] at hd
  rcases hd with rfl | rfl | rfl | rfl | rfl
  · exact Bd.none
  · exact (Bd.str (by decide +kernel) (by decide +kernel)).mono (Nat.le_refl _) (by omega)
  · exact BdL.nil.tup
  · exact (Bd.int ⟨by decide, by decide⟩).mono (Nat.le_refl _) (by omega)
  · exact Bd.dict0
theorem bd1 {k w : Nat} {d : PyData} (h : Bd k w d) : BdL k (w + 1) [d] := BdL.cons h (BdL.nil (w := 0))
theorem bd3 {k u v w : Nat} {a b c : PyData} (ha : Bd k u a) (hb : Bd k v b) (hc : Bd k w c) : BdL k (u + 1 + (v + 1 + (w + 1))) [a, b, c] := BdL.cons ha (BdL.cons hb (bd1 hc))
theorem wts {k w : Nat} {a b c : PyData} (h : BdL k w [a, b, c]) : a.weight + b.weight + c.weight + 3 ≤ w := by
  have := h.wt
  rw [PyData.weightAll, PyData.weightAll, PyData.weightAll, PyData.weightAll] at this
  omega
section
variable {P : Program} {w : World} {K : PySem.W.Frag} {mg : Str → Option Value} {base : Heap}
set_option hygiene false
local macro_rules | `(tactic| k_dat 0 "rd") => `(tactic| first | with_reducible apply rd.val | with_reducible apply rd.own | (apply rd.slot; apply Eq.refl) | (apply rd.slotL; apply Eq.refl))
local macro_rules | `(tactic| k_dat 0 "rdS") => `(tactic| first | with_reducible (apply rdS.l; apply rd.val) | with_reducible (apply rdS.t; apply rd.val) | with_reducible (apply rdS.l; apply rd.own) | (apply rdS.l; apply rd.slotL; apply Eq.refl) | (apply rdS.l; apply rd.slot; apply Eq.refl) | (apply rdS.t; apply rd.slot; apply Eq.refl))
local macro_rules | `(tactic| k_dat 0 "rdD") => `(tactic| first | with_reducible apply rdD.val | with_reducible apply rdD.own | (apply rdD.slot; apply Eq.refl) | (apply rdD.slotP; apply Eq.refl))
local macro_rules | `(tactic| k_dat 0 "sc") => `(tactic| first | apply Sc.int | apply Sc.bl | apply Sc.str | apply Sc.non)
local macro_rules | `(tactic| k_dat 0 "asD") => `(tactic| first | with_reducible apply asD.val | with_reducible apply asD.own | (apply asD.slot; apply Eq.refl))
local macro_rules | `(tactic| k_dat 0 "asX") => `(tactic| first | with_reducible apply asX.pure | with_reducible apply asX.own | (apply asX.slot; apply Eq.refl) | with_reducible apply asX.keep)
local macro_rules | `(tactic| k_dat 0 "nf") => `(tactic| first | (conv => arg 3; dsimp only [wipeM, List.set, List.map]) | skip)
local macro_rules | `(tactic| k_dat 0 "eq") => `(tactic| first | (dsimp only [wipeM, List.set, List.map]; done) | (dsimp only [wipeM, List.set, List.map]; apply Eq.refl) | apply Eq.refl)
local macro_rules | `(tactic| k_dat 0 "st") => `(tactic| first
  | ((with_reducible apply x_seq); k_dat 0 "nf") | ((with_reducible apply x_parT2); (case hi => omega); (case hj => omega)) | ((with_reducible apply x_asg2); (case hi => omega); (case hj => omega)) | ((with_reducible apply x_asg3); (case hi => omega); (case hj => omega); (case hl => omega)) | ((with_reducible apply x_par4); (case hi => omega); (case hj => omega); (case hk => omega); (case hl => omega)) | ((with_reducible apply x_par2); (case hij => omega); (case hi => omega); (case hj => omega)) | with_reducible first | (apply x_asg; case hl => decide) | apply x_drop | apply x_ret | apply x_next | apply x_break | apply x_cont
  | apply x_dput (K := K) | apply x_putN (K := K) | apply x_retN)
local macro_rules | `(tactic| k_dat 0 "ex") => `(tactic| with_reducible first
  | apply ev_int (K := K) | apply ev_str (K := K) | apply ev_bl (K := K) | apply ev_non (K := K)
  | apply ev_tup (K := K) | apply ev_lst (K := K) | apply ev_op | apply ev_un | apply ev_sset_rows (K := K) | apply ev_sset_ints (K := K) | apply ev_cb1 | apply ev_cb2 | apply ev_andV (K := K) | apply ev_orV (K := K) | apply ev_notV (K := K) | apply ev_if
  | apply ev_sl | apply evO_none | apply evO_some (K := K) | apply ev_rev | apply ev_bm1 | apply ev_bm0 | apply ev_dnew (K := K) | apply ev_disp (K := K) | apply ev_dget1 (K := K) | apply ev_dget2 (K := K) | apply ev_dinI (K := K) | apply ev_dninI (K := K) | apply ev_chainI (K := K)
  | apply ev_call | apply ev_call1
  | apply evD_nil | apply evD_cons | apply evA_nil | apply evA_x (K := K) | apply evPs_nil | apply evPs_cons
  | apply ev_dispN (K := K) | apply evPsN_nil | apply evPsN_cons | apply ev_ninN (K := K) | apply ev_ninR (K := K) | apply ev_dcR (K := K)
  | apply evT_val (K := K) | apply evT_B (K := K) | apply evT_and | apply evT_or | apply evT_not | apply evT_yes)
local macro_rules | `(tactic| k_dat 0 "vr") => `(tactic| first
  | ((with_reducible apply ev_var); (case h => apply Eq.refl)) | ((with_reducible apply ev_at); (case h => apply Eq.refl))
  | ((with_reducible apply x_augI); (case hi => decide); (case h0 => apply Eq.refl)))
local macro_rules | `(tactic| k_dat 0 "tg") => `(tactic| first
  | (with_reducible apply tg_name) | ((with_reducible apply tg_move); (case h => apply Eq.refl)) | ((with_reducible apply tg_tup); (case hn => rfl)) | (with_reducible apply tg_row) | (with_reducible apply tgs_nil) | (with_reducible apply tgs_consN))
local macro_rules | `(tactic| k_dat 0 "len") => `(tactic| ((first | apply lt_line | apply le_line); (try simp only [List.length_map, List.length_append, List.length_cons, List.length_nil, List.length_range]); omega))
local macro_rules | `(tactic| k_dat 0 "op") => `(tactic| first
  | ((with_reducible apply op_i0 (K := K)); (case h1 => k_dat 0 "rd"); (case h2 => k_dat 0 "rd"); (case hd => k_dat 0 "sc"))
  | ((with_reducible apply op_eqI (K := K)); (case h1 => k_dat 0 "rd"); (case h2 => k_dat 0 "rd")) | ((with_reducible apply op_neI (K := K)); (case h1 => k_dat 0 "rd"); (case h2 => k_dat 0 "rd"))
  | ((with_reducible apply op_eqS (K := K)); (case h1 => k_dat 0 "rd"); (case h2 => k_dat 0 "rd")) | ((with_reducible apply op_neS (K := K)); (case h1 => k_dat 0 "rd"); (case h2 => k_dat 0 "rd"))
  | ((with_reducible apply op_ixR0 (K := K)); (case h1 => k_dat 0 "rd"); (case h2 => k_dat 0 "rd")) | ((with_reducible apply op_ixR1 (K := K)); (case h1 => k_dat 0 "rd"); (case h2 => k_dat 0 "rd")) | ((with_reducible apply op_ixR2 (K := K)); (case h1 => k_dat 0 "rd"); (case h2 => k_dat 0 "rd"))
  | ((with_reducible apply un_i (K := K)); (case h1 => k_dat 0 "rd"); (case hd => k_dat 0 "sc"))
  | ((with_reducible apply un_len (K := K)); (case h => k_dat 0 "rdS")) | ((with_reducible apply un_list (K := K)); (case h => k_dat 0 "rdS")) | ((with_reducible apply un_tuple (K := K)); (case h => first | (apply rdS.l; k_dat 0 "rd") | (apply rdS.t; k_dat 0 "rd")))
  | ((with_reducible apply un_int (K := K)); (case h => k_dat 0 "rd")) | ((with_reducible apply un_lenD (K := K)); (case h => k_dat 0 "rdD")) | ((with_reducible apply un_listK (K := K)); (case h => k_dat 0 "rdD"))
  | ((with_reducible apply op_append (K := K)); (case hd => k_dat 0 "asD"); (case e => apply Eq.refl); (case hl => k_dat 0 "len"))
  | ((with_reducible apply op_cat_ (K := K)); (case h1 => k_dat 0 "rd"); (case h2 => k_dat 0 "rd"); (case hl => k_dat 0 "len"))
  | ((with_reducible apply op_max2 (K := K)); (case h1 => k_dat 0 "rd"); (case h2 => k_dat 0 "rd")) | ((with_reducible apply op_min2 (K := K)); (case h1 => k_dat 0 "rd"); (case h2 => k_dat 0 "rd"))
  | ((with_reducible apply sl_list_ (K := K)); (case h1 => k_dat 0 "rd")) | ((with_reducible apply sl_tup_ (K := K)); (case h1 => k_dat 0 "rd")))
local macro_rules | `(tactic| k_dat 0 "sp") => `(tactic| first
  | ((with_reducible (apply Exists.intro; apply And.intro)); (case left => with_reducible apply Eq.refl))
  | ((with_reducible (apply Exists.intro; apply And.intro)); (case left => first | k_dat 0 "rd" | k_dat 0 "rdD"))
  | ((with_reducible apply And.intro); (case left => (with_reducible apply Exists.intro); k_dat 0 "rdD"))
  | ((with_reducible (apply Exists.intro; apply Exists.intro; apply And.intro)); (case left => first | k_dat 0 "asD" | k_dat 0 "asX"))
  | ((with_reducible apply And.intro); (case left => apply len_le; apply Eq.refl))
  | ((with_reducible (apply Exists.intro (Sum.inl _); apply And.intro)); (case left => apply Eq.refl)) | ((with_reducible (apply Exists.intro (Sum.inr _); apply And.intro)); (case left => apply Eq.refl)))
local macro_rules | `(tactic| k_dat 0 "wk") => `(tactic| with_reducible first | apply x_forD (K := K) | apply x_lc (K := K) | apply wkD_list | apply wkD_tup | apply wkD_seq | apply wkD_rng1 | apply wkD_rng2 | apply wkD_str)
local macro_rules | `(tactic| k_dat 0 "ml1") => `(tactic| first | k_dat 0 "st" | k_dat 0 "ex" | k_dat 0 "wk" | k_dat 0 "vr" | k_dat 0 "tg" | k_dat 0 "op" | k_dat 0 "sp")
local macro_rules | `(tactic| k_dat 0 "ml") => `(tactic| repeat k_dat 0 "ml1")
local macro_rules | `(tactic| k_dat 0 "od") => `(tactic| first
  | (with_reducible apply ev_dct0 (K := K))
  | ((with_reducible apply un_boolI (K := K)); (case h => k_dat 0 "rd")))
local macro_rules | `(tactic| k_dat 0 "ml1") => `(tactic| first | k_dat 0 "st" | k_dat 0 "ex" | k_dat 0 "wk" | k_dat 0 "vr" | k_dat 0 "tg" | k_dat 0 "op" | k_dat 0 "sp" | k_dat 0 "od")
def rowBentM (K : PySem.W.Frag) : MSp := fun Rs q => ∃ (n k wt : Nat) (R : List Row) (d : PyData), Rs = [deck n, dat K (.tuple (R.map rowD)), dat K d] ∧ n < 2 ^ 38 ∧ R.length ≤ 76 ∧ (∀ r ∈ R, Bd 1 174 (rowD r)) ∧ 1 ≤ k ∧ Bd k wt d ∧ ∀ m d', m ≤ n + 2 → Bd (k + 1) (wt + 200) d' → q (dat K d') [deck m]
abbrev S_law_row_bent (K : PySem.W.Frag) : Sp := spOf 1 (rowBentM K)
theorem scRowBent : FnScope ["_law_deck_here", "_law_some", "_law_row", "_law_way", "_law_plain", "_law_ways"] ["_law_deck_here", "_law_some", "_law_row"] (defScope sRowBent) := ⟨rfl, rfl, rfl, by decide +kernel, rfl, by decide +kernel, by decide +kernel⟩
theorem ok_rowBent {f : Addr} {fd : FuncData} (G : Fun K "_law_row_bent" "_law_row_bent" sRowBent f fd) (T : CH.Blt2 mg) (h_law_draw : HasM P w K mg base "_law_draw" 1 ["_law_deck_here", "_law_many"] (S_law_draw K)) (h_law_pick : HasM P w K mg base "_law_pick" 2 ["_law_deck_here", "_law_some"] (S_law_pick K)) :
    FnG P w K mg base CX0 3 f fd ["_law_deck_here", "_law_some", "_law_row"] (S_law_row_bent K) := by
  refine fn_ml G scRowBent (fun Rs q ⟨_, _, _, _, _, h, _⟩ => by rw [h]; rfl) (by decide) fun cdv A outer s H E hrG => ?_
  have hr := hrG.room
  have hu := hu_of hr
  have hu64 := hr.units
  refine ⟨_, (pss_cons (ps_par (i := 3) (j := 4) rfl scRowBent.nd rfl rfl (by decide) rfl rfl (pa_cons (pe_hg h_law_draw (hrG.mono (by decide)) rfl (pa_cons (pv 0) (pa_cons pe_int pa_nil))) (pa_cons (pe_lst (pa_cons pe_non (pa_cons pe_str (pa_cons (pe_tup pa_nil) (pa_cons pe_int (pa_cons pe_dct0 pa_nil)))))) pa_nil)) (by rfl))
  (pss_cons (ps_if (PW.pt (pw_and (pt_cmpR op_lt (pv 3) pe_int (nomark _)) (pw_and1 (pt_cmpR (EqQ.op_neNil hu64) (pv 1) (pe_tup pa_nil) (nomark _)))))
    (pss_one (ps_ret (pe_hg h_law_pick (hrG.mono (by decide)) rfl (pa_cons (pv 0) (pa_cons (pv 1) pa_nil)))))
    pss_nil)
  (pss_cons (ps_if (PW.pt (pw_or (pt_not (pt_val (pe_callB call_isi (by rfl) T.b_isinstance (by decide +kernel) (pa_cons (pv 2) (pa_cons (pe_bltn (u := .type "tuple") (v := .ty "tuple") rfl T.b_tuple (by decide +kernel) rfl) pa_nil))))) (pw_or (pt_cmpR op_ne (pe_callB call_lenQ (by rfl) T.b_len PySem.boot_len (pa_cons (pv 2) pa_nil)) pe_int (nomark _)) (pw_or (pt_not (pt_val (pe_callB call_isi (by rfl) T.b_isinstance (by decide +kernel) (pa_cons (pe_ix ix_tup (pv 2) pe_int (fun _ _ => rfl)) (pa_cons (pe_bltn (u := .type "int") (v := .ty "int") rfl T.b_int (by decide +kernel) rfl) pa_nil))))) (pw_or1 (pt_not (pt_val (pe_callB call_isi (by rfl) T.b_isinstance (by decide +kernel) (pa_cons (pe_ix ix_tup (pv 2) pe_int (fun _ _ => rfl)) (pa_cons (pe_bltn (u := .type "int") (v := .ty "int") rfl T.b_int (by decide +kernel) rfl) pa_nil))))))))))
    (pss_one (ps_ret (pe_hg h_law_pick (hrG.mono (by decide)) rfl (pa_cons (pv 0) (pa_cons (pv 4) pa_nil)))))
    pss_nil)
  (pss_cons (ps_set (i := 5) scRowBent.nd rfl (Or.inl rfl) (pe_lst (pa_cons (pe_callTy call_listQ (by rfl) T.b_list (by decide +kernel) (pa_cons (pv 2) pa_nil)) (pa_cons (pe_revT (pv 2)) (pa_cons (pe_slice sl_tupA (pv 2) po_none (po_some pe_int)) (pa_cons (pe_op op_catA (pv 2) (pe_tup (pa_cons pe_int pa_nil))) (pa_cons (pe_tup (pa_cons (pe_ix ix_tup (pv 2) pe_int (fun _ _ => rfl)) (pa_cons pe_str (pa_cons (pe_ix ix_tup (pv 2) pe_int (fun _ _ => rfl)) pa_nil)))) (pa_cons (pe_tup (pa_cons (pe_ix ix_tup (pv 2) pe_int (fun _ _ => rfl)) (pa_cons (pe_ix ix_tup (pv 2) pe_int (fun _ _ => rfl)) (pa_cons (pe_un un_neg pe_int) pa_nil)))) pa_nil))))))))
  (pss_cons (ps_set (i := 5) scRowBent.nd rfl (Or.inl rfl) (pe_op op_cat (pv 5) (pe_lst (pa_cons (pe_tup (pa_cons (pe_callTy call_bool1 (by rfl) T.b_bool (by decide +kernel) (pa_cons (pe_op op_modA (pe_ix ix_tup (pv 2) pe_int (fun _ _ => rfl)) pe_int) pa_nil)) (pa_cons (pe_ix ix_tup (pv 2) pe_int (fun _ _ => rfl)) (pa_cons (pe_ix ix_tup (pv 2) pe_int (fun _ _ => rfl)) pa_nil)))) (pa_cons (pe_tup (pa_cons (pe_ix ix_tup (pv 2) pe_int (fun _ _ => rfl)) (pa_cons (pe_ix ix_tup (pv 2) pe_int (fun _ _ => rfl)) (pa_cons (pe_callTy call_bool1 (by rfl) T.b_bool (by decide +kernel) (pa_cons (pe_op op_modA (pe_ix ix_tup (pv 2) pe_int (fun _ _ => rfl)) pe_int) pa_nil)) pa_nil)))) (pa_cons (pe_tup (pa_cons (pe_ix ix_tup (pv 2) pe_int (fun _ _ => rfl)) (pa_cons (pe_lst (pa_cons (pe_ix ix_tup (pv 2) pe_int (fun _ _ => rfl)) pa_nil)) (pa_cons (pe_ix ix_tup (pv 2) pe_int (fun _ _ => rfl)) pa_nil)))) pa_nil))))))
  (pss_one (ps_ret (pe_hg h_law_pick (hrG.mono (by decide)) rfl (pa_cons (pv 0) (pa_cons (pe_op op_cat (pv 5) (pv 4)) pa_nil)))))))))), ?_⟩
  rintro Rs q ⟨n, k, wt, R, d, rfl, hn, hl, hR, hk, hd, hq⟩
  rw [outF_eq]
  try dsimp only [cxOf, Cx.nox, Cx.wish]
  show ML.ex 1 _ [some (deck n), some (dat K (.tuple (R.map rowD))), some (dat K d), none, none, none] _
  k_dat 0 "ml"
  refine c_draw rfl (by omega) (by omega) (by omega) fun t0 t00 t01 => ?_
  k_dat 0 "ml"
  have rows0 : ∀ e ∈ R.map rowD, Bd (k + 1) (wt + 200) e := fun e he => by
    obtain ⟨r, hr, rfl⟩ := List.mem_map.mp he
    exact (hR r hr).mono (by omega) (by omega)
  have plain0 : ∀ e ∈ plainDs, Bd (k + 1) (wt + 200) e := fun e he => (plain_bd (k := k) (w := wt) e he).mono (Nat.le_refl _) (by omega)
  refine ex_mono (Φ := ⟨fun ρ' => ρ' = [some (deck (n + 1)), some (dat K (.tuple (R.map rowD))), some (dat K d), some (dat K (.int t0)), some (ML.lo K plainDs), none], fun r ρ' => ∃ R_1 Rs', retR 1 r ρ' R_1 Rs' ∧ q R_1 Rs', fun _ => False, fun _ => False⟩) ?_ ?_ (fun _ _ h => h) (fun _ h => h) (fun _ h => h)
  · apply x_if
    k_dat 0 "ml"
    refine ⟨fun h1 => ?_, fun h1 => ⟨fun h => Bool.noConfusion h, fun _ => ?_⟩⟩
    · k_dat 0 "ml"
      refine op_eqNil_ rd.val rd.val ?_
      refine ⟨_, rfl, fun h2 => ?_, fun h2 => ?_⟩
      · k_dat 0 "ml"
        have hne : 1 ≤ (R.map rowD).length := by
          rw [if_pos rfl] at h2
          cases hc : R.map rowD with
          | nil => rw [hc] at h2; cases h2
          | cons x l => exact Nat.succ_le_succ (Nat.zero_le _)
        refine c_pickT rfl hne (by rw [List.length_map]; omega) (by omega) fun e he => ?_
        exact ⟨_, _, ret_val rfl, hq _ _ (by omega) (rows0 e he)⟩
      · k_dat 0 "ml"
        rfl
    · k_dat 0 "ml"
      rfl
  rintro ρ' rfl
  have pickP : ∀ {nx'}, ML.ex 1 (tRet (tCall (S_law_pick K) [] E0 (tCons (tVar 0) (tCons (tVar 4) tNil)))) [some (deck (n + 1)), some (dat K (.tuple (R.map rowD))), some (dat K d), some (dat K (.int t0)), some (ML.lo K plainDs), none] ⟨nx', fun r ρ' => ∃ R_1 Rs', retR 1 r ρ' R_1 Rs' ∧ q R_1 Rs', fun _ => False, fun _ => False⟩ := by
    intro nx'
    k_dat 0 "ml"
    refine c_pickL rfl (by decide) (by decide) (by omega) fun e he => ?_
    exact ⟨_, _, ret_val rfl, hq _ _ (by omega) (plain0 e he)⟩
  apply x_seq
  refine ex_mono (Φ := ⟨fun ρ' => ρ' = [some (deck (n + 1)), some (dat K (.tuple (R.map rowD))), some (dat K d), some (dat K (.int t0)), some (ML.lo K plainDs), none] ∧ ∃ a b c, d = .tuple [a, b, c] ∧ isInt a = true ∧ isInt c = true, fun r ρ' => ∃ R_1 Rs', retR 1 r ρ' R_1 Rs' ∧ q R_1 Rs', fun _ => False, fun _ => False⟩) ?_ ?_ (fun _ _ h => h) (fun _ h => h) (fun _ h => h)
  · refine x_if (evT_or (evT_not (evT_B (K := K) (ev_isiA kit_tuple (ev_var rfl ⟨d, rd.val, isTup d, rfl, fun h => ⟨fun _ => pickP, fun h => Bool.noConfusion h⟩, fun h => ?_⟩)))))
    obtain ⟨ds, rfl⟩ : ∃ ds, d = .tuple ds := by
      cases d <;> first | exact ⟨_, rfl⟩ | (simp [isTup] at h)
    k_dat 0 "ml"
    refine ⟨fun h => ⟨fun _ => pickP, fun h => Bool.noConfusion h⟩, fun h => ?_⟩
    have hl3 : ds.length = 3 := by
      have : ((ds.length : Nat) : Int) = 3 := by simpa using h
      omega
    obtain ⟨a, b, c, rfl⟩ : ∃ a b c, ds = [a, b, c] := by
      match ds, hl3 with
      | [a, b, c], _ => exact ⟨a, b, c, rfl⟩
    refine evT_or (evT_not (evT_B (K := K) (ev_isiA kit_int ?_)))
    k_dat 0 "ml"
    refine op_ixT rd.val rd.val (d := a) rfl ⟨a, rd.val, isInt a, rfl, fun h => ⟨fun _ => pickP, fun h => Bool.noConfusion h⟩, fun ha => ?_⟩
    refine evT_not (evT_B (K := K) (ev_isiA kit_int ?_))
    k_dat 0 "ml"
    refine op_ixT rd.val rd.val (d := c) rfl ⟨c, rd.val, isInt c, rfl, fun h => pickP, fun hc => ?_⟩
    k_dat 0 "ml"
    exact ⟨rfl, a, b, c, rfl, by simpa using ha, by simpa using hc⟩
  rintro ρ' ⟨rfl, a, b, c, rfl, ha, hc⟩
  k_dat 0 "ml"
  refine ev_revT ?_
  k_dat 0 "ml"
  refine op_catA_ rd.val rd.val (le_line (Nat.le_of_ble_eq_true rfl)) ?_
  k_dat 0 "ml"
  refine op_ixT rd.val rd.val (d := a) rfl ?_
  k_dat 0 "ml"
  refine op_ixT rd.val rd.val (d := c) rfl ?_
  k_dat 0 "ml"
  refine op_ixT rd.val rd.val (d := a) rfl ?_
  k_dat 0 "ml"
  refine op_ixT rd.val rd.val (d := b) rfl ?_
  k_dat 0 "ml"
  refine op_ixT rd.val rd.val (d := a) rfl ?_
  k_dat 0 "ml"
  refine op_modA_ rd.val ha rd.val ?_
  k_dat 0 "ml"
  refine op_ixT rd.val rd.val (d := b) rfl ?_
  k_dat 0 "ml"
  refine op_ixT rd.val rd.val (d := c) rfl ?_
  k_dat 0 "ml"
  refine op_ixT rd.val rd.val (d := a) rfl ?_
  k_dat 0 "ml"
  refine op_ixT rd.val rd.val (d := b) rfl ?_
  k_dat 0 "ml"
  refine op_ixT rd.val rd.val (d := c) rfl ?_
  k_dat 0 "ml"
  refine op_modA_ rd.val hc rd.val ?_
  k_dat 0 "ml"
  refine op_ixT rd.val rd.val (d := a) rfl ?_
  k_dat 0 "ml"
  refine op_ixT rd.val rd.val (d := b) rfl ?_
  k_dat 0 "ml"
  refine op_ixT rd.val rd.val (d := c) rfl ?_
  k_dat 0 "ml"
  obtain ⟨k, rfl⟩ : ∃ k', k = k' + 1 := ⟨k - 1, by omega⟩
  have L := hd.untup
  have hw := wts L
  have La : Bd k a.weight a := ⟨L.head.ok, L.head.dp, Nat.le_refl _⟩
  have Lb : Bd k b.weight b := ⟨L.tail.head.ok, L.tail.head.dp, Nat.le_refl _⟩
  have Lc : Bd k c.weight c := ⟨L.tail.tail.head.ok, L.tail.tail.head.dp, Nat.le_refl _⟩
  have ways : ∀ e ∈ ([.list [a, b, c], .tuple [a, b, c].reverse, .tuple (cutA [a, b, c] none (some 2)), .tuple ([a, b, c] ++ [.int 0]), .tuple [a, .str "q", c], .tuple [a, b, .int (-1)]] ++ [.tuple [.bool (numD a % 2 != 0), b, c], .tuple [a, b, .bool (numD c % 2 != 0)], .tuple [a, .list [b], c]] : List PyData) ++ plainDs, Bd (k + 1 + 1) (wt + 200) e := by
    intro e he
    rcases List.mem_append.mp he with he | he
    · simp only [List.cons_append, List.nil_append, List.mem_cons, List.not_mem_nil, or_false] at he
      rcases he with rfl | rfl | rfl | rfl | rfl | rfl | rfl | rfl | rfl
      · exact L.lst.mono (by omega) (by omega)
      · exact L.reverse.tup.mono (by omega) (by omega)
      · exact (L.cut _ _).tup.mono (by omega) (by omega)
      · exact (L.append (bd1 (Bd.int (i := 0) ⟨by decide, by decide⟩))).tup.mono (by omega) (by omega)
      · exact (bd3 La (Bd.str (z := "q") (by decide +kernel) (by decide +kernel)) Lc).tup.mono (by omega) (by omega)
      · exact (bd3 La Lb (Bd.int (i := -1) ⟨by decide, by decide⟩)).tup.mono (by omega) (by omega)
      · exact (bd3 (Bd.bool (w := 0) _) Lb Lc).tup.mono (by omega) (by omega)
      · exact (bd3 La Lb (Bd.bool (w := 0) _)).tup.mono (by omega) (by omega)
      · exact (bd3 (La.mono (k' := k + 1) (by omega) (Nat.le_refl _)) (bd1 Lb).lst (Lc.mono (k' := k + 1) (by omega) (Nat.le_refl _))).tup.mono (by omega) (by omega)
    · exact plain0 e he
  refine op_cat_ (.slotL rfl) rd.own (le_line (Nat.le_of_ble_eq_true rfl)) ?_
  k_dat 0 "ml"
  refine c_pickL rfl (Nat.le_of_ble_eq_true rfl) (by show 14 < 2 ^ 30; decide) (by omega) fun e he => ?_
  exact ⟨_, _, ret_val rfl, hq _ _ (by omega) (ways e he)⟩
end
end K24

/-! _law_bent. -/
namespace K24
open PySem L2 KS GL LB K24m ML
open CH (outs sucs ChC ChartAt cf cf_arrows cf_states ChartOk spInit arrowB labelB)
open PySem.Spec hiding Row
open PyProof.Rows hiding cnt
open EqQ (rowIn op_inAny_ op_eqNil_)
theorem un_intB {K : PySem.W.Frag} {ρ : MS} {Q : Rt → MS → Prop} {r1 : Rt} {b : Bool} (h : rd K ρ r1 (.bool b)) (q : Q (.val (dat K (.int (if b = true then 1 else 0)))) ρ) : unR (fun v H k => (∃ i, [v] = [V.int i] ∧ k (.int i) H) ∨ ∃ c, [v] = [V.bl c] ∧ k (.int (if c = true then 1 else 0)) H) r1 ρ Q :=
  un_sc h (fun H v1 k e1 hk => by
    cases e1
    exact .inr ⟨b, rfl, hk _ (.int _)⟩) q
section
variable {P : Program} {w : World} {K : PySem.W.Frag} {mg : Str → Option Value} {base : Heap}
set_option hygiene false
local macro_rules | `(tactic| k_dat 0 "rd") => `(tactic| first | with_reducible apply rd.val | with_reducible apply rd.own | (apply rd.slot; apply Eq.refl) | (apply rd.slotL; apply Eq.refl))
local macro_rules | `(tactic| k_dat 0 "rdS") => `(tactic| first | with_reducible (apply rdS.l; apply rd.val) | with_reducible (apply rdS.t; apply rd.val) | with_reducible (apply rdS.l; apply rd.own) | (apply rdS.l; apply rd.slotL; apply Eq.refl) | (apply rdS.l; apply rd.slot; apply Eq.refl) | (apply rdS.t; apply rd.slot; apply Eq.refl))
local macro_rules | `(tactic| k_dat 0 "rdD") => `(tactic| first | with_reducible apply rdD.val | with_reducible apply rdD.own | (apply rdD.slot; apply Eq.refl) | (apply rdD.slotP; apply Eq.refl))
local macro_rules | `(tactic| k_dat 0 "sc") => `(tactic| first | apply Sc.int | apply Sc.bl | apply Sc.str | apply Sc.non)
local macro_rules | `(tactic| k_dat 0 "asD") => `(tactic| first | with_reducible apply asD.val | with_reducible apply asD.own | (apply asD.slot; apply Eq.refl))
local macro_rules | `(tactic| k_dat 0 "asX") => `(tactic| first | with_reducible apply asX.pure | with_reducible apply asX.own | (apply asX.slot; apply Eq.refl) | with_reducible apply asX.keep)
local macro_rules | `(tactic| k_dat 0 "nf") => `(tactic| first | (conv => arg 3; dsimp only [wipeM, List.set, List.map]) | skip)
local macro_rules | `(tactic| k_dat 0 "eq") => `(tactic| first | (dsimp only [wipeM, List.set, List.map]; done) | (dsimp only [wipeM, List.set, List.map]; apply Eq.refl) | apply Eq.refl)
local macro_rules | `(tactic| k_dat 0 "st") => `(tactic| first
  | ((with_reducible apply x_seq); k_dat 0 "nf") | ((with_reducible apply x_parT2); (case hi => omega); (case hj => omega)) | ((with_reducible apply x_asg2); (case hi => omega); (case hj => omega)) | ((with_reducible apply x_asg3); (case hi => omega); (case hj => omega); (case hl => omega)) | ((with_reducible apply x_par4); (case hi => omega); (case hj => omega); (case hk => omega); (case hl => omega)) | ((with_reducible apply x_par2); (case hij => omega); (case hi => omega); (case hj => omega)) | with_reducible first | (apply x_asg; case hl => decide) | apply x_drop | apply x_ret | apply x_next | apply x_break | apply x_cont
  | apply x_dput (K := K) | apply x_putN (K := K) | apply x_retN)
local macro_rules | `(tactic| k_dat 0 "ex") => `(tactic| with_reducible first
  | apply ev_int (K := K) | apply ev_str (K := K) | apply ev_bl (K := K) | apply ev_non (K := K)
  | apply ev_tup (K := K) | apply ev_lst (K := K) | apply ev_op | apply ev_un | apply ev_sset_rows (K := K) | apply ev_sset_ints (K := K) | apply ev_cb1 | apply ev_cb2 | apply ev_andV (K := K) | apply ev_orV (K := K) | apply ev_notV (K := K) | apply ev_if
  | apply ev_sl | apply evO_none | apply evO_some (K := K) | apply ev_rev | apply ev_bm1 | apply ev_bm0 | apply ev_dnew (K := K) | apply ev_disp (K := K) | apply ev_dget1 (K := K) | apply ev_dget2 (K := K) | apply ev_dinI (K := K) | apply ev_dninI (K := K) | apply ev_chainI (K := K)
  | apply ev_call | apply ev_call1
  | apply evD_nil | apply evD_cons | apply evA_nil | apply evA_x (K := K) | apply evPs_nil | apply evPs_cons
  | apply ev_dispN (K := K) | apply evPsN_nil | apply evPsN_cons | apply ev_ninN (K := K) | apply ev_ninR (K := K) | apply ev_dcR (K := K)
  | apply evT_val (K := K) | apply evT_B (K := K) | apply evT_and | apply evT_or | apply evT_not | apply evT_yes)
local macro_rules | `(tactic| k_dat 0 "vr") => `(tactic| first
  | ((with_reducible apply ev_var); (case h => apply Eq.refl)) | ((with_reducible apply ev_at); (case h => apply Eq.refl))
  | ((with_reducible apply x_augI); (case hi => decide); (case h0 => apply Eq.refl)))
local macro_rules | `(tactic| k_dat 0 "tg") => `(tactic| first
  | (with_reducible apply tg_name) | ((with_reducible apply tg_move); (case h => apply Eq.refl)) | ((with_reducible apply tg_tup); (case hn => rfl)) | (with_reducible apply tg_row) | (with_reducible apply tgs_nil) | (with_reducible apply tgs_consN))
local macro_rules | `(tactic| k_dat 0 "len") => `(tactic| ((first | apply lt_line | apply le_line); (try simp only [List.length_map, List.length_append, List.length_cons, List.length_nil, List.length_range]); omega))
local macro_rules | `(tactic| k_dat 0 "op") => `(tactic| first
  | ((with_reducible apply op_i0 (K := K)); (case h1 => k_dat 0 "rd"); (case h2 => k_dat 0 "rd"); (case hd => k_dat 0 "sc"))
  | ((with_reducible apply op_eqI (K := K)); (case h1 => k_dat 0 "rd"); (case h2 => k_dat 0 "rd")) | ((with_reducible apply op_neI (K := K)); (case h1 => k_dat 0 "rd"); (case h2 => k_dat 0 "rd"))
  | ((with_reducible apply op_eqS (K := K)); (case h1 => k_dat 0 "rd"); (case h2 => k_dat 0 "rd")) | ((with_reducible apply op_neS (K := K)); (case h1 => k_dat 0 "rd"); (case h2 => k_dat 0 "rd"))
  | ((with_reducible apply op_ixR0 (K := K)); (case h1 => k_dat 0 "rd"); (case h2 => k_dat 0 "rd")) | ((with_reducible apply op_ixR1 (K := K)); (case h1 => k_dat 0 "rd"); (case h2 => k_dat 0 "rd")) | ((with_reducible apply op_ixR2 (K := K)); (case h1 => k_dat 0 "rd"); (case h2 => k_dat 0 "rd"))
  | ((with_reducible apply un_i (K := K)); (case h1 => k_dat 0 "rd"); (case hd => k_dat 0 "sc"))
  | ((with_reducible apply un_len (K := K)); (case h => k_dat 0 "rdS")) | ((with_reducible apply un_list (K := K)); (case h => k_dat 0 "rdS")) | ((with_reducible apply un_tuple (K := K)); (case h => first | (apply rdS.l; k_dat 0 "rd") | (apply rdS.t; k_dat 0 "rd")))
  | ((with_reducible apply un_int (K := K)); (case h => k_dat 0 "rd")) | ((with_reducible apply un_lenD (K := K)); (case h => k_dat 0 "rdD")) | ((with_reducible apply un_listK (K := K)); (case h => k_dat 0 "rdD"))
  | ((with_reducible apply op_append (K := K)); (case hd => k_dat 0 "asD"); (case e => apply Eq.refl); (case hl => k_dat 0 "len"))
  | ((with_reducible apply op_cat_ (K := K)); (case h1 => k_dat 0 "rd"); (case h2 => k_dat 0 "rd"); (case hl => k_dat 0 "len"))
  | ((with_reducible apply op_max2 (K := K)); (case h1 => k_dat 0 "rd"); (case h2 => k_dat 0 "rd")) | ((with_reducible apply op_min2 (K := K)); (case h1 => k_dat 0 "rd"); (case h2 => k_dat 0 "rd"))
  | ((with_reducible apply sl_list_ (K := K)); (case h1 => k_dat 0 "rd")) | ((with_reducible apply sl_tup_ (K := K)); (case h1 => k_dat 0 "rd")))
local macro_rules | `(tactic| k_dat 0 "sp") => `(tactic| first
  | ((with_reducible (apply Exists.intro; apply And.intro)); (case left => with_reducible apply Eq.refl))
  | ((with_reducible (apply Exists.intro; apply And.intro)); (case left => first | k_dat 0 "rd" | k_dat 0 "rdD"))
  | ((with_reducible apply And.intro); (case left => (with_reducible apply Exists.intro); k_dat 0 "rdD"))
  | ((with_reducible (apply Exists.intro; apply Exists.intro; apply And.intro)); (case left => first | k_dat 0 "asD" | k_dat 0 "asX"))
  | ((with_reducible apply And.intro); (case left => apply len_le; apply Eq.refl))
  | ((with_reducible (apply Exists.intro (Sum.inl _); apply And.intro)); (case left => apply Eq.refl)) | ((with_reducible (apply Exists.intro (Sum.inr _); apply And.intro)); (case left => apply Eq.refl)))
local macro_rules | `(tactic| k_dat 0 "wk") => `(tactic| with_reducible first | apply x_forD (K := K) | apply x_lc (K := K) | apply wkD_list | apply wkD_tup | apply wkD_seq | apply wkD_rng1 | apply wkD_rng2 | apply wkD_str)
local macro_rules | `(tactic| k_dat 0 "ml1") => `(tactic| first | k_dat 0 "st" | k_dat 0 "ex" | k_dat 0 "wk" | k_dat 0 "vr" | k_dat 0 "tg" | k_dat 0 "op" | k_dat 0 "sp")
local macro_rules | `(tactic| k_dat 0 "ml") => `(tactic| repeat k_dat 0 "ml1")
local macro_rules | `(tactic| k_dat 0 "od") => `(tactic| first
  | (with_reducible apply ev_dct0 (K := K))
  | ((with_reducible apply un_boolI (K := K)); (case h => k_dat 0 "rd")))
local macro_rules | `(tactic| k_dat 0 "ml1") => `(tactic| first | k_dat 0 "st" | k_dat 0 "ex" | k_dat 0 "wk" | k_dat 0 "vr" | k_dat 0 "tg" | k_dat 0 "op" | k_dat 0 "sp" | k_dat 0 "od")
def bentM (K : PySem.W.Frag) : MSp := fun Rs q => ∃ (n k wt : Nat) (R : List Row) (ds : List PyData), Rs = [deck n, dat K (.tuple (R.map rowD)), dat K (.tuple ds)] ∧ n < 2 ^ 37 ∧ R.length ≤ 76 ∧ (∀ r ∈ R, Bd 1 174 (rowD r)) ∧ 1 ≤ k ∧ wt ≤ 12000 ∧ BdL k wt ds ∧ ∀ m d', m ≤ n + 10 → Bd (k + 3) (5 * wt + 400) d' → q (dat K d') [deck m]
abbrev S_law_bent (K : PySem.W.Frag) : Sp := spOf 1 (bentM K)
theorem scBent : FnScope ["_law_deck_here", "_law_some", "_law_it", "_law_way", "_law_at", "_law_to", "_law_extra", "_law_low", "_law_high", "_law_found"] ["_law_deck_here", "_law_some", "_law_it"] (defScope sBent) := ⟨rfl, rfl, rfl, by decide +kernel, rfl, by decide +kernel, by decide +kernel⟩
theorem ok_bent {f : Addr} {fd : FuncData} (G : Fun K "_law_bent" "_law_bent" sBent f fd) (T : CH.Blt2 mg) (h_law_draw : HasM P w K mg base "_law_draw" 1 ["_law_deck_here", "_law_many"] (S_law_draw K)) (h_law_pick : HasM P w K mg base "_law_pick" 2 ["_law_deck_here", "_law_some"] (S_law_pick K)) (h_law_row_bent : HasM P w K mg base "_law_row_bent" 3 ["_law_deck_here", "_law_some", "_law_row"] (S_law_row_bent K)) :
    FnG P w K mg base CX0 4 f fd ["_law_deck_here", "_law_some", "_law_it"] (S_law_bent K) := by
  refine fn_ml G scBent (fun Rs q ⟨_, _, _, _, _, h, _⟩ => by rw [h]; rfl) (by decide) fun cdv A outer s H E hrG => ?_
  have hr := hrG.room
  have hu := hu_of hr
  have hu64 := hr.units
  refine ⟨_, (pss_cons (ps_par3 (i := 3) (j := 4) (l := 5) rfl scBent.nd rfl rfl rfl (by decide) (by decide) (by decide) rfl rfl rfl (pa_cons (pe_hg h_law_draw (hrG.mono (by decide)) rfl (pa_cons (pv 0) (pa_cons pe_int pa_nil))) (pa_cons (pe_hg h_law_draw (hrG.mono (by decide)) rfl (pa_cons (pv 0) (pa_cons (pe_op op_add (pe_callB call_lenQ (by rfl) T.b_len PySem.boot_len (pa_cons (pv 2) pa_nil)) pe_int) pa_nil))) (pa_cons (pe_hg h_law_draw (hrG.mono (by decide)) rfl (pa_cons (pv 0) (pa_cons (pe_op op_add (pe_callB call_lenQ (by rfl) T.b_len PySem.boot_len (pa_cons (pv 2) pa_nil)) pe_int) pa_nil))) pa_nil))) (by rfl))
  (pss_cons (ps_if (PW.pt (pw_or (pt_cmpR (EqQ.op_eqNil hu64) (pv 2) (pe_tup pa_nil) (nomark _)) (pw_or1 (pt_cmpR op_eq (pv 3) pe_int (nomark _)))))
    (pss_cons (ps_set (i := 6) scBent.nd rfl (Or.inl rfl) (pe_ifExp (pt_cmpR (EqQ.op_neNil hu64) (pv 1) (pe_tup pa_nil) (nomark _)) (pe_hg h_law_pick (hrG.mono (by decide)) rfl (pa_cons (pv 0) (pa_cons (pv 1) pa_nil))) (pe_tup (pa_cons pe_int (pa_cons pe_str (pa_cons pe_int pa_nil))))))
  (pss_one (ps_ret (pe_op op_catA (pe_op op_catA (pe_slice sl_tupA (pv 2) po_none (po_some (pv 4))) (pe_tup (pa_cons (pv 6) pa_nil))) (pe_slice sl_tupA (pv 2) (po_some (pv 4)) po_none)))))
    pss_nil)
  (pss_cons (ps_par (i := 4) (j := 5) rfl scBent.nd rfl rfl (by decide) rfl rfl (pa_cons (pe_op op_mod (pv 4) (pe_callB call_lenQ (by rfl) T.b_len PySem.boot_len (pa_cons (pv 2) pa_nil))) (pa_cons (pe_op op_mod (pv 5) (pe_callB call_lenQ (by rfl) T.b_len PySem.boot_len (pa_cons (pv 2) pa_nil))) pa_nil)) (by rfl))
  (pss_cons (ps_if (pt_cmpR op_eq (pv 3) pe_int (nomark _))
    (pss_one (ps_ret (pe_op op_catA (pe_slice sl_tupA (pv 2) po_none (po_some (pv 4))) (pe_slice sl_tupA (pv 2) (po_some (pe_op op_add (pv 4) pe_int)) po_none))))
    pss_nil)
  (pss_cons (ps_if (pt_cmpR op_eq (pv 3) pe_int (nomark _))
    (pss_one (ps_ret (pe_op op_catA (pe_op op_catA (pe_slice sl_tupA (pv 2) po_none (po_some (pv 4))) (pe_slice sl_tupA (pv 2) (po_some (pv 4)) (po_some (pe_op op_add (pv 4) pe_int)))) (pe_slice sl_tupA (pv 2) (po_some (pv 4)) po_none))))
    pss_nil)
  (pss_cons (ps_if (pt_cmpR op_eq (pv 3) pe_int (nomark _))
    (pss_cons (ps_par (i := 7) (j := 8) rfl scBent.nd rfl rfl (by decide) rfl rfl (pa_cons (pe_callB (call_min2 rfl) (by rfl) T.b_min (by decide +kernel) (pa_cons (pv 4) (pa_cons (pv 5) pa_nil))) (pa_cons (pe_callB (call_max2 rfl) (by rfl) T.b_max (by decide +kernel) (pa_cons (pv 4) (pa_cons (pv 5) pa_nil))) pa_nil)) (by rfl))
  (pss_cons (ps_set (i := 9) scBent.nd rfl (Or.inl rfl) (pe_op op_catA (pe_op op_catA (pe_slice sl_tupA (pv 2) po_none (po_some (pv 7))) (pe_slice sl_tupA (pv 2) (po_some (pv 8)) (po_some (pe_op op_add (pv 8) pe_int)))) (pe_slice sl_tupA (pv 2) (po_some (pe_op op_add (pv 7) pe_int)) (po_some (pv 8)))))
  (pss_one (ps_ret (pe_op op_catA (pe_op op_catA (pv 9) (pe_op op_rep01 (pe_slice sl_tupA (pv 2) (po_some (pv 7)) (po_some (pe_op op_add (pv 7) pe_int))) (pe_callTy call_int1 (by rfl) T.b_int (by decide +kernel) (pa_cons (pe_cmpR op_gt (pv 8) (pv 7) (nomark _)) pa_nil)))) (pe_slice sl_tupA (pv 2) (po_some (pe_op op_add (pv 8) pe_int)) po_none))))))
    pss_nil)
  (pss_cons (ps_if (pt_cmpR op_eq (pv 3) pe_int (nomark _))
    (pss_one (ps_ret (pe_hg h_law_pick (hrG.mono (by decide)) rfl (pa_cons (pv 0) (pa_cons (pe_lst (pa_cons (pe_revT (pv 2)) (pa_cons (pe_callTy call_listQ (by rfl) T.b_list (by decide +kernel) (pa_cons (pv 2) pa_nil)) (pa_cons (pe_op op_catA (pv 2) (pe_tup (pa_cons (pv 2) pa_nil))) (pa_cons (pe_tup (pa_cons (pv 2) pa_nil)) (pa_cons (pe_slice sl_tupA (pv 2) (po_some (pv 4)) po_none) (pa_cons pe_non (pa_cons pe_str (pa_cons pe_int (pa_cons pe_dct0 pa_nil)))))))))) pa_nil)))))
    pss_nil)
  (pss_one (ps_ret (pe_op op_catA (pe_op op_catA (pe_slice sl_tupA (pv 2) po_none (po_some (pv 4))) (pe_tup (pa_cons (pe_hg h_law_row_bent (hrG.mono (by decide)) rfl (pa_cons (pv 0) (pa_cons (pv 1) (pa_cons (pe_ix ix_tup (pv 2) (pv 4) (fun _ _ => rfl)) pa_nil)))) pa_nil))) (pe_slice sl_tupA (pv 2) (po_some (pe_op op_add (pv 4) pe_int)) po_none))))))))))), ?_⟩
  rintro Rs q ⟨n, k, wt, R, ds, rfl, hn, hl, hR, hk, hwt, hd, hq⟩
  rw [outF_eq]
  try dsimp only [cxOf, Cx.nox, Cx.wish]
  show ML.ex 1 _ [some (deck n), some (dat K (.tuple (R.map rowD))), some (dat K (.tuple ds)), none, none, none, none, none, none, none] _
  have hdl := hd.len
  have rows0 : ∀ e ∈ R.map rowD, Bd k 174 e := fun e he => by
    obtain ⟨r, hr, rfl⟩ := List.mem_map.mp he
    exact (hR r hr).mono hk (Nat.le_refl _)
  refine x_seq (x_par3 (by decide) (by decide) (by decide) ?_)
  k_dat 0 "ml"
  refine c_draw rfl (by omega) (by omega) (by omega) fun way w0 w1 => ?_
  k_dat 0 "ml"
  refine c_draw rfl (by omega) (by omega) (by omega) fun at_ a0 a1 => ?_
  k_dat 0 "ml"
  refine c_draw rfl (by omega) (by omega) (by omega) fun to_ t0 t1 => ?_
  refine ⟨_, _, _, rfl, rfl, rfl, ?_⟩
  apply x_seq
  have bdc : ∀ {l o : Option Int}, BdL k wt (cutA ds l o) := fun {l o} => hd.cut l o
  refine ex_mono (Φ := ⟨fun ρ' => ρ' = [some (deck (n + 1 + 1 + 1)), some (dat K (.tuple (R.map rowD))), some (dat K (.tuple ds)), some (dat K (.int way)), some (dat K (.int at_)), some (dat K (.int to_)), none, none, none, none] ∧ ds ≠ [], fun r ρ' => ∃ R_1 Rs', retR 1 r ρ' R_1 Rs' ∧ q R_1 Rs', fun _ => False, fun _ => False⟩) ?_ ?_ (fun _ _ h => h) (fun _ h => h) (fun _ h => h)
  · have cl : ∀ {l o : Option Int}, (cutA ds l o).length ≤ wt := fun {l o} => (hd.cut l o).len
    have fin : ∀ {nx'} (N : Nat) (e : PyData), N ≤ n + 4 → Bd k 174 e → ML.ex 1 (tRet (tOp (rCatA K) (tOp (rCatA K) (tSl (rSlA K) (tVar 2) tNoPart (tPart (tVar 4))) (tTup (tCons (tVar 6) tNil))) (tSl (rSlA K) (tVar 2) (tPart (tVar 4)) tNoPart)))
        [some (deck N), some (dat K (.tuple (R.map rowD))), some (dat K (.tuple ds)), some (dat K (.int way)), some (dat K (.int at_)), some (dat K (.int to_)), some (dat K e), none, none, none] ⟨nx', fun r ρ' => ∃ R_1 Rs', retR 1 r ρ' R_1 Rs' ∧ q R_1 Rs', fun _ => False, fun _ => False⟩ := by
      intro nx' N e hN he
      have l1 := cl (l := none) (o := some at_)
      have l2 := cl (l := some at_) (o := none)
      k_dat 0 "ml"
      refine op_catA_ rd.val rd.val (le_line (by show _ + 1 ≤ _; omega)) ?_
      k_dat 0 "ml"
      refine op_catA_ rd.val rd.val (le_line (by rw [List.length_append]; show _ + 1 + _ ≤ _; omega)) ?_
      exact ⟨_, _, ret_val rfl, hq _ _ (by omega) (((bdc.append (bd1 he)).append bdc).tup.mono (by omega) (by omega))⟩
    have ext : ∀ {nx'}, ML.ex 1 (tSeq (tAsg (tIf (tTest (tOp (EqQ.rEqNil K true) (tVar 1) (tTup tNil))) (tCall (S_law_pick K) [] E0 (tCons (tVar 0) (tCons (tVar 1) tNil))) (tTup (tCons (tC (.int 0)) (tCons (tC (.str "a")) (tCons (tC (.int 0)) tNil))))) (gName 6))
        (tRet (tOp (rCatA K) (tOp (rCatA K) (tSl (rSlA K) (tVar 2) tNoPart (tPart (tVar 4))) (tTup (tCons (tVar 6) tNil))) (tSl (rSlA K) (tVar 2) (tPart (tVar 4)) tNoPart))))
        [some (deck (n + 1 + 1 + 1)), some (dat K (.tuple (R.map rowD))), some (dat K (.tuple ds)), some (dat K (.int way)), some (dat K (.int at_)), some (dat K (.int to_)), none, none, none, none] ⟨nx', fun r ρ' => ∃ R_1 Rs', retR 1 r ρ' R_1 Rs' ∧ q R_1 Rs', fun _ => False, fun _ => False⟩ := by
      intro nx'
      k_dat 0 "ml"
      refine op_eqNil_ rd.val rd.val ?_
      refine ⟨_, rfl, fun h2 => ?_, fun h2 => ?_⟩
      · k_dat 0 "ml"
        have hne : 1 ≤ (R.map rowD).length := by
          rw [if_pos rfl] at h2
          cases hc : R.map rowD with
          | nil => rw [hc] at h2; cases h2
          | cons x l => exact Nat.succ_le_succ (Nat.zero_le _)
        refine c_pickT rfl hne (by rw [List.length_map]; omega) (by omega) fun e he => ?_
        refine tg_name ?_
        exact fin (n + 1 + 1 + 1 + 1) e (by omega) (rows0 e he)
      · k_dat 0 "ml"
        have hB : Bd k 174 (.tuple [.int 0, .str "a", .int 0]) := (Bd.row (r := ((0 : Int), "a", (0 : Int))) ⟨by decide, by decide⟩ ⟨by decide +kernel, by decide +kernel⟩ ⟨by decide, by decide⟩).mono hk (Nat.le_refl _)
        refine op_catA_ rd.val rd.val (le_line (Nat.le_trans (Nat.add_le_add bdc.len (bd1 hB).len) (by omega))) ?_
        k_dat 0 "ml"
        refine op_catA_ rd.val rd.val (le_line (Nat.le_trans (Nat.add_le_add (bdc.append (bd1 hB)).len bdc.len) (by omega))) ?_
        exact ⟨_, _, ret_val rfl, hq _ _ (by omega) (((bdc.append (bd1 hB)).append bdc).tup.mono (by omega) (by omega))⟩
    apply x_if
    k_dat 0 "ml"
    refine op_eqNil_ rd.val rd.val ?_
    refine ⟨_, rfl, fun h => ⟨fun _ => ext, fun h => Bool.noConfusion h⟩, fun h => ?_⟩
    k_dat 0 "ml"
    refine ⟨fun h0 => ?_, fun h0 => ?_⟩
    · exact ext
    · k_dat 0 "ml"
      exact ⟨rfl, fun z => by rw [z] at h; cases h⟩
  rintro ρ' ⟨rfl, hne⟩
  have hpos : 0 < ((ds.length : Nat) : Int) := by
    cases ds with
    | nil => exact absurd rfl hne
    | cons x l => show 0 < ((l.length + 1 : Nat) : Int); omega
  have ha0 := Int.emod_nonneg at_ (Int.ne_of_gt hpos)
  have ha1 := Int.emod_lt_of_pos at_ hpos
  apply x_seq
  refine x_par2 (by decide) (by decide) (by decide) ?_
  k_dat 0 "ml"
  refine op_iC rd.val rd.val hpos (.int _) ?_
  k_dat 0 "ml"
  refine op_iC rd.val rd.val hpos (.int _) ⟨_, rfl, _, rfl, ?_⟩
  generalize at_ % ((ds.length : Nat) : Int) = A at ha0 ha1
  generalize to_ % ((ds.length : Nat) : Int) = B
  have cat : ∀ {ρ : MS} {x y : List PyData} {u v : Nat} {Q' : Rt → MS → Prop}, BdL k u x → BdL k v y → u + v ≤ 100000 → Q' (.val (dat K (.tuple (x ++ y)))) ρ → opR (rCatA K) (.val (dat K (.tuple x))) (.val (dat K (.tuple y))) ρ Q' :=
    fun hx hy hw h => op_catA_ rd.val rd.val (le_line (Nat.le_trans (Nat.add_le_add hx.len hy.len) hw)) h
  have done : ∀ {ρ : MS} {N : Nat} {x : List PyData} {u : Nat}, N ≤ n + 10 → BdL (k + 2) u x → u ≤ 5 * wt + 400 → ρ[0]? = some (some (deck N)) → ρ.take 1 = [some (deck N)] → ∃ R_1 Rs', retR 1 (.val (dat K (.tuple x))) ρ R_1 Rs' ∧ q R_1 Rs' :=
    fun hN hx hw e e2 => ⟨_, [_], ret_val e2, hq _ _ hN (hx.tup.mono (by omega) hw)⟩
  apply x_seq
  refine x_if (evT_val (K := K) ?_)
  k_dat 0 "ml"
  refine ⟨fun h1 => ?_, fun h1 => ?_⟩
  · k_dat 0 "ml"
    refine cat bdc bdc (by omega) ?_
    exact done (N := n + 1 + 1 + 1) (by omega) ((bdc.append bdc).mono (by omega) (Nat.le_refl _)) (by omega) rfl rfl
  refine x_next (x_seq (x_if (evT_val (K := K) ?_)))
  k_dat 0 "ml"
  refine ⟨fun h2 => ?_, fun h2 => ?_⟩
  · k_dat 0 "ml"
    refine cat bdc bdc (by omega) ?_
    k_dat 0 "ml"
    refine cat (bdc.append bdc) bdc (by omega) ?_
    exact done (N := n + 1 + 1 + 1) (by omega) (((bdc.append bdc).append bdc).mono (by omega) (Nat.le_refl _)) (by omega) rfl rfl
  refine x_next (x_seq (x_if (evT_val (K := K) ?_)))
  k_dat 0 "ml"
  refine ⟨fun h3 => ?_, fun h3 => ?_⟩
  · k_dat 0 "ml"
    generalize (if B < A then B else A) = lo
    generalize (if B > A then B else A) = hi
    refine cat bdc bdc (by omega) ?_
    k_dat 0 "ml"
    refine cat (bdc.append bdc) bdc (by omega) ?_
    k_dat 0 "ml"
    refine un_intB rd.val ?_
    have hk01 : (if decide (lo < hi) = true then (1 : Int) else 0) = 0 ∨ (if decide (lo < hi) = true then (1 : Int) else 0) = 1 := by split <;> simp
    generalize (if decide (lo < hi) = true then (1 : Int) else 0) = z at hk01
    refine op_rep01_ rd.val rd.val hk01 ?_
    have hrep : BdL k wt (if z = 1 then cutA ds (some lo) (some (lo + 1)) else []) := by
      split
      · exact bdc
      · exact BdL.nil
    refine cat ((bdc.append bdc).append bdc) hrep (by omega) ?_
    k_dat 0 "ml"
    refine cat (((bdc.append bdc).append bdc).append hrep) bdc (by omega) ?_
    exact done (N := n + 1 + 1 + 1) (by omega) (((((bdc.append bdc).append bdc).append hrep).append bdc).mono (by omega) (Nat.le_refl _)) (by omega) rfl rfl
  refine x_next (x_seq (x_if (evT_val (K := K) ?_)))
  k_dat 0 "ml"
  refine ⟨fun h4 => ?_, fun h4 => ?_⟩
  · k_dat 0 "ml"
    refine ev_revT ?_
    k_dat 0 "ml"
    refine op_catA_ rd.val rd.val (le_line (by show _ + 1 ≤ _; omega)) ?_
    k_dat 0 "ml"
    have ways : ∀ e ∈ ([.tuple ds.reverse, .list ds, .tuple (ds ++ [.tuple ds]), .tuple [.tuple ds], .tuple (cutA ds (some A) none), .none, .str "", .int 0, .dict []] : List PyData), Bd (k + 3) (5 * wt + 400) e := by
      intro e he
      have dk1 : BdL (k + 1) wt ds := hd.mono (by omega) (Nat.le_refl _)
      simp only [List.mem_cons, List.not_mem_nil, or_false] at he
      rcases he with rfl | rfl | rfl | rfl | rfl | rfl | rfl | rfl | rfl
      · exact hd.reverse.tup.mono (by omega) (by omega)
      · exact hd.lst.mono (by omega) (by omega)
      · exact (dk1.append (bd1 hd.tup)).tup.mono (by omega) (by omega)
      · exact (bd1 hd.tup).tup.mono (by omega) (by omega)
      · exact bdc.tup.mono (by omega) (by omega)
      · exact Bd.none
      · exact (Bd.str (z := "") (by decide +kernel) (by decide +kernel)).mono (Nat.le_refl _) (by omega)
      · exact (Bd.int (i := 0) ⟨by decide, by decide⟩).mono (Nat.le_refl _) (by omega)
      · exact Bd.dict0
    refine c_pickL rfl (Nat.le_of_ble_eq_true rfl) (by show 9 < 2 ^ 30; decide) (by omega) fun e he => ?_
    exact ⟨_, _, ret_val rfl, hq _ _ (by omega) (ways e he)⟩
  refine x_next ?_
  obtain ⟨i, rfl⟩ : ∃ i : Nat, A = (i : Int) := ⟨A.toNat, by omega⟩
  have hi : i < ds.length := by omega
  k_dat 0 "ml"
  refine op_ixT rd.val rd.val (atI_nat (List.getElem?_eq_getElem hi)) ?_
  k_dat 0 "ml"
  apply c_one [_, _] (Eq.refl _)
  refine ⟨n + 1 + 1 + 1, k, wt, R, ds[i], rfl, by omega, hl, hR, hk, hd.mem _ (List.getElem_mem hi), fun m d' hm hB => ⟨_, rfl, ?_⟩⟩
  have b1 : BdL (k + 2) wt (cutA ds none (some (i : Int))) := bdc.mono (by omega) (Nat.le_refl _)
  have b2 : BdL (k + 2) wt (cutA ds (some ((i : Int) + 1)) none) := bdc.mono (by omega) (Nat.le_refl _)
  have b3 : BdL (k + 2) (wt + 200 + 1) [d'] := bd1 (hB.mono (by omega) (Nat.le_refl _))
  k_dat 0 "ml"
  refine op_catA_ rd.val rd.val (le_line (Nat.le_trans (Nat.add_le_add b1.len b3.len) (by omega))) ?_
  k_dat 0 "ml"
  refine op_catA_ rd.val rd.val (le_line (Nat.le_trans (Nat.add_le_add (b1.append b3).len b2.len) (by omega))) ?_
  exact done (N := m) (by omega) ((b1.append b3).append b2) (by omega) rfl rfl
end
end K24

/-! f(a = ..), one parameter. -/
namespace LB
open PySem PySem.Spec PyProof.Rows L2 KS GL ML
structure HasM1 (P : Program) (w : World) (K : PySem.W.Frag) (mg : Str → Option Value) (base : Heap) (x : Str) (k : Nat) (y : Str) (sp : Sp) : Prop where
  ex : ∃ f fd, FnG P w K mg base CX0 k f fd [y] sp ∧ mg x = some (.ref f) ∧ PySem.W.keepIn K (.ref f) = true ∧ ∀ (s : Shared) (u : Value), BindsTo s fd ⟨[], [(y, u)]⟩ [(y, u)]
theorem pe_hg1 {X : Cx} {x y : Str} {k : Nat} {sp : Sp} {e1 : Expr} {ta : TE} {p k1 pos : Pos} (h : HasM1 X.prog X.w X.K X.mg X.base x k y sp) (hr : RoomG k X.A) (hg : Gl X x) (ha : PE X e1 ta) (hdb : (x == ("__debug__" : Str)) = false := by decide)
    (hall : (backToKw pos (keywordEach [⟨some y, e1, k1⟩] X.env)).all (·.1.isSome) = true := by rfl) (hks : (backToKw pos (keywordEach [⟨some y, e1, k1⟩] X.env)).filterMap (·.1) = [y] := by rfl)
    (hpl : ((backTo pos (starEach [] X.env)).any (·.1) || (backToKw pos (keywordEach [⟨some y, e1, k1⟩] X.env)).any (·.1.isNone)) = false := by rfl) :
    PE X (.Call (.Name x p) [] [⟨some y, e1, k1⟩] pos) (tCall sp [] E0 (tCons ta tNil)) := by
  obtain ⟨f, fd, F, hm, hk, hb⟩ := h.ex
  refine ⟨fun pins s σ H Q I h => wpAny_Call_Name_kw (ld_glob I hg hm ?_ hdb)⟩
  refine PySem.W.callWith_KW0 (h₀ := X.base) I.ok.mod.kin hk hall ?_ hpl
  refine thn ((pk_cons ha pk_nil).run pos pins s σ H (fun vs H1 => match vs with | [u] => sp [u] H1 Q E0 | _ => False) I h) fun ws s2 ⟨zs, H2, I2, rz, q2⟩ => ⟨I2.kIn, ?_⟩
  match zs, rz, q2 with
  | [u], rz, q2 =>
    obtain ⟨⟩ | ⟨r1, r2⟩ := rz
    cases r2
    rw [hks]
    refine wpAny_call (codeAny_mono (F.run X.A X.stack s2 H2 ⟨[], [(y, _)]⟩ [_] [u] Q E0 hr I2.env0 (hb s2 _) (.cons r1 .nil) q2) fun r s' hq => ?_)
    have fin := end_fn pass0 I2 hq
    cases r with
    | error er => exact fin
    | ok fl => cases fl <;> exact fin
end LB

/-! _law_holds_right. -/
namespace K24
open PySem L2 KS GL LB K24m ML
open CH (outs sucs ChC ChartAt cf cf_arrows cf_states ChartOk spInit arrowB labelB)
open PySem.Spec hiding Row
open PyProof.Rows hiding cnt
theorem snd_of {d : PyData} (h : okS d = true) : SndB d := by
  rintro ds z rfl e
  rw [okS] at h
  match ds, e with
  | a :: b :: ds, e =>
    have e : b = .str z := Option.some.inj e
    subst e
    rw [okSAll, okSAll, okS] at h
    simp only [Bool.and_eq_true, decide_eq_true_eq] at h
    omega
theorem op_notNb {K : PySem.W.Frag} {ρ : MS} {Q : Rt → MS → Prop} {r1 r2 : Rt} {d : PyData} {b : Bool} (h1 : rd K ρ r1 d) (h2 : rd K ρ r2 .none) (hb : b = (match d with | .none => false | _ => true)) (q : Q (.val (dat K (.bool b))) ρ) : opR (fun x y H Q => y = .non ∧ Q (.bl (!decide (x = .non))) H) r1 r2 ρ Q := by
  cases d <;> (subst hb; exact op_notN_ h1 h2 q)
theorem bools_shown (b c : Bool) : (PyData.list [.bool b, .bool c]).showable = true ∧ (PyData.list [.bool b, .bool c]).depth ≤ 60 ∧ (PyData.list [.bool b, .bool c]).shown.length ≤ sizeLine := by
  cases b <;> cases c <;> exact ⟨by decide +kernel, by decide +kernel, by decide +kernel⟩
section
variable {P : Program} {w : World} {K : PySem.W.Frag} {mg : Str → Option Value} {base : Heap}
set_option hygiene false
local macro_rules | `(tactic| k_dat 0 "rd") => `(tactic| first | with_reducible apply rd.val | with_reducible apply rd.own | (apply rd.slot; apply Eq.refl) | (apply rd.slotL; apply Eq.refl))
local macro_rules | `(tactic| k_dat 0 "rdS") => `(tactic| first | with_reducible (apply rdS.l; apply rd.val) | with_reducible (apply rdS.t; apply rd.val) | with_reducible (apply rdS.l; apply rd.own) | (apply rdS.l; apply rd.slotL; apply Eq.refl) | (apply rdS.l; apply rd.slot; apply Eq.refl) | (apply rdS.t; apply rd.slot; apply Eq.refl))
local macro_rules | `(tactic| k_dat 0 "rdD") => `(tactic| first | with_reducible apply rdD.val | with_reducible apply rdD.own | (apply rdD.slot; apply Eq.refl) | (apply rdD.slotP; apply Eq.refl))
local macro_rules | `(tactic| k_dat 0 "sc") => `(tactic| first | apply Sc.int | apply Sc.bl | apply Sc.str | apply Sc.non)
local macro_rules | `(tactic| k_dat 0 "asD") => `(tactic| first | with_reducible apply asD.val | with_reducible apply asD.own | (apply asD.slot; apply Eq.refl))
local macro_rules | `(tactic| k_dat 0 "asX") => `(tactic| first | with_reducible apply asX.pure | with_reducible apply asX.own | (apply asX.slot; apply Eq.refl) | with_reducible apply asX.keep)
local macro_rules | `(tactic| k_dat 0 "nf") => `(tactic| first | (conv => arg 3; dsimp only [wipeM, List.set, List.map]) | skip)
local macro_rules | `(tactic| k_dat 0 "eq") => `(tactic| first | (dsimp only [wipeM, List.set, List.map]; done) | (dsimp only [wipeM, List.set, List.map]; apply Eq.refl) | apply Eq.refl)
local macro_rules | `(tactic| k_dat 0 "st") => `(tactic| first
  | ((with_reducible apply x_seq); k_dat 0 "nf") | ((with_reducible apply x_parT2); (case hi => omega); (case hj => omega)) | ((with_reducible apply x_asg2); (case hi => omega); (case hj => omega)) | ((with_reducible apply x_asg3); (case hi => omega); (case hj => omega); (case hl => omega)) | ((with_reducible apply x_par4); (case hi => omega); (case hj => omega); (case hk => omega); (case hl => omega)) | ((with_reducible apply x_par2); (case hij => omega); (case hi => omega); (case hj => omega)) | with_reducible first | (apply x_asg; case hl => decide) | apply x_drop | apply x_ret | apply x_next | apply x_break | apply x_cont
  | apply x_dput (K := K) | apply x_putN (K := K) | apply x_retN)
local macro_rules | `(tactic| k_dat 0 "ex") => `(tactic| with_reducible first
  | apply ev_int (K := K) | apply ev_str (K := K) | apply ev_bl (K := K) | apply ev_non (K := K)
  | apply ev_tup (K := K) | apply ev_lst (K := K) | apply ev_op | apply ev_un | apply ev_sset_rows (K := K) | apply ev_sset_ints (K := K) | apply ev_cb1 | apply ev_cb2 | apply ev_andV (K := K) | apply ev_orV (K := K) | apply ev_notV (K := K) | apply ev_if
  | apply ev_sl | apply evO_none | apply evO_some (K := K) | apply ev_rev | apply ev_bm1 | apply ev_bm0 | apply ev_dnew (K := K) | apply ev_disp (K := K) | apply ev_dget1 (K := K) | apply ev_dget2 (K := K) | apply ev_dinI (K := K) | apply ev_dninI (K := K) | apply ev_chainI (K := K)
  | apply ev_call | apply ev_call1
  | apply evD_nil | apply evD_cons | apply evA_nil | apply evA_x (K := K) | apply evPs_nil | apply evPs_cons
  | apply ev_dispN (K := K) | apply evPsN_nil | apply evPsN_cons | apply ev_ninN (K := K) | apply ev_ninR (K := K) | apply ev_dcR (K := K)
  | apply evT_val (K := K) | apply evT_B (K := K) | apply evT_and | apply evT_or | apply evT_not | apply evT_yes)
local macro_rules | `(tactic| k_dat 0 "vr") => `(tactic| first
  | ((with_reducible apply ev_var); (case h => apply Eq.refl)) | ((with_reducible apply ev_at); (case h => apply Eq.refl))
  | ((with_reducible apply x_augI); (case hi => decide); (case h0 => apply Eq.refl)))
local macro_rules | `(tactic| k_dat 0 "tg") => `(tactic| first
  | (with_reducible apply tg_name) | ((with_reducible apply tg_move); (case h => apply Eq.refl)) | ((with_reducible apply tg_tup); (case hn => rfl)) | (with_reducible apply tg_row) | (with_reducible apply tgs_nil) | (with_reducible apply tgs_consN))
local macro_rules | `(tactic| k_dat 0 "len") => `(tactic| ((first | apply lt_line | apply le_line); (try simp only [List.length_map, List.length_append, List.length_cons, List.length_nil, List.length_range]); omega))
local macro_rules | `(tactic| k_dat 0 "op") => `(tactic| first
  | ((with_reducible apply op_i0 (K := K)); (case h1 => k_dat 0 "rd"); (case h2 => k_dat 0 "rd"); (case hd => k_dat 0 "sc"))
  | ((with_reducible apply op_eqI (K := K)); (case h1 => k_dat 0 "rd"); (case h2 => k_dat 0 "rd")) | ((with_reducible apply op_neI (K := K)); (case h1 => k_dat 0 "rd"); (case h2 => k_dat 0 "rd"))
  | ((with_reducible apply op_eqS (K := K)); (case h1 => k_dat 0 "rd"); (case h2 => k_dat 0 "rd")) | ((with_reducible apply op_neS (K := K)); (case h1 => k_dat 0 "rd"); (case h2 => k_dat 0 "rd"))
  | ((with_reducible apply op_ixR0 (K := K)); (case h1 => k_dat 0 "rd"); (case h2 => k_dat 0 "rd")) | ((with_reducible apply op_ixR1 (K := K)); (case h1 => k_dat 0 "rd"); (case h2 => k_dat 0 "rd")) | ((with_reducible apply op_ixR2 (K := K)); (case h1 => k_dat 0 "rd"); (case h2 => k_dat 0 "rd"))
  | ((with_reducible apply un_i (K := K)); (case h1 => k_dat 0 "rd"); (case hd => k_dat 0 "sc"))
  | ((with_reducible apply un_len (K := K)); (case h => k_dat 0 "rdS")) | ((with_reducible apply un_list (K := K)); (case h => k_dat 0 "rdS")) | ((with_reducible apply un_tuple (K := K)); (case h => first | (apply rdS.l; k_dat 0 "rd") | (apply rdS.t; k_dat 0 "rd")))
  | ((with_reducible apply un_int (K := K)); (case h => k_dat 0 "rd")) | ((with_reducible apply un_lenD (K := K)); (case h => k_dat 0 "rdD")) | ((with_reducible apply un_listK (K := K)); (case h => k_dat 0 "rdD"))
  | ((with_reducible apply op_append (K := K)); (case hd => k_dat 0 "asD"); (case e => apply Eq.refl); (case hl => k_dat 0 "len"))
  | ((with_reducible apply op_cat_ (K := K)); (case h1 => k_dat 0 "rd"); (case h2 => k_dat 0 "rd"); (case hl => k_dat 0 "len"))
  | ((with_reducible apply op_max2 (K := K)); (case h1 => k_dat 0 "rd"); (case h2 => k_dat 0 "rd")) | ((with_reducible apply op_min2 (K := K)); (case h1 => k_dat 0 "rd"); (case h2 => k_dat 0 "rd"))
  | ((with_reducible apply sl_list_ (K := K)); (case h1 => k_dat 0 "rd")) | ((with_reducible apply sl_tup_ (K := K)); (case h1 => k_dat 0 "rd")))
local macro_rules | `(tactic| k_dat 0 "sp") => `(tactic| first
  | ((with_reducible (apply Exists.intro; apply And.intro)); (case left => with_reducible apply Eq.refl))
  | ((with_reducible (apply Exists.intro; apply And.intro)); (case left => first | k_dat 0 "rd" | k_dat 0 "rdD"))
  | ((with_reducible apply And.intro); (case left => (with_reducible apply Exists.intro); k_dat 0 "rdD"))
  | ((with_reducible (apply Exists.intro; apply Exists.intro; apply And.intro)); (case left => first | k_dat 0 "asD" | k_dat 0 "asX"))
  | ((with_reducible apply And.intro); (case left => apply len_le; apply Eq.refl))
  | ((with_reducible (apply Exists.intro (Sum.inl _); apply And.intro)); (case left => apply Eq.refl)) | ((with_reducible (apply Exists.intro (Sum.inr _); apply And.intro)); (case left => apply Eq.refl)))
local macro_rules | `(tactic| k_dat 0 "wk") => `(tactic| with_reducible first | apply x_forD (K := K) | apply x_lc (K := K) | apply wkD_list | apply wkD_tup | apply wkD_seq | apply wkD_rng1 | apply wkD_rng2 | apply wkD_str)
local macro_rules | `(tactic| k_dat 0 "ml1") => `(tactic| first | k_dat 0 "st" | k_dat 0 "ex" | k_dat 0 "wk" | k_dat 0 "vr" | k_dat 0 "tg" | k_dat 0 "op" | k_dat 0 "sp")
local macro_rules | `(tactic| k_dat 0 "ml") => `(tactic| repeat k_dat 0 "ml1")
local macro_rules | `(tactic| k_dat 0 "od") => `(tactic| first
  | (with_reducible apply ev_dct0 (K := K))
  | ((with_reducible apply un_boolI (K := K)); (case h => k_dat 0 "rd")))
local macro_rules | `(tactic| k_dat 0 "ml1") => `(tactic| first | k_dat 0 "st" | k_dat 0 "ex" | k_dat 0 "wk" | k_dat 0 "vr" | k_dat 0 "tg" | k_dat 0 "op" | k_dat 0 "sp" | k_dat 0 "od")
def holdsRM (K : PySem.W.Frag) (C : Addr) : MSp := fun Rs q => ∃ (n : Nat) (R : List Row) (d : PyData), Rs = [pu (chartP K C n R), dat K (.tuple (R.map rowD)), dat K d] ∧ R.length ≤ 76 ∧ (∀ x ∈ R, Lbl x ∧ arrowB n x.1 x.2.1 x.2.2 = true) ∧ (∀ x ∈ R, x.1 ≠ -1) ∧ Bd 60 100000 d ∧ q (dat K (.bool true)) []
theorem scHoldsRight : FnScope ["_law_plan", "_law_some", "_law_it", "_law_due", "_law_kept", "_law_told"] ["_law_plan", "_law_some", "_law_it"] (defScope sHoldsRight) := ⟨rfl, rfl, rfl, by decide +kernel, rfl, by decide +kernel, by decide +kernel⟩
theorem ok_holdsRight {f C : Addr} {fd : FuncData} (G : Fun K "_law_holds_right" "_law_holds_right" sHoldsRight f fd) (T : CH.Blt2 mg) (h_law_is_removal : HasM P w K mg base "_law_is_removal" 3 ["_law_some", "_law_it"] (S_law_is_removal K)) (hremoval_holds : HasM P w K mg base "removal_holds" 5 ["chart", "thing"] (spOf 0 (holdsA K C))) (hremoval_holds_k : HasM2 P w K mg base "removal_holds" 5 "chart" "thing" (spOf 0 (holdsA K C))) :
    FnG P w K mg base CX0 6 f fd ["_law_plan", "_law_some", "_law_it"] (spOf 0 (holdsRM K C)) := by
  refine fn_ml G scHoldsRight (fun Rs q ⟨_, _, _, h, _⟩ => by rw [h]; rfl) (by decide) fun cdv A outer s H E hrG => ?_
  have hr := hrG.room
  have hu := hu_of hr
  have hu64 := hr.units
  refine ⟨_, (pss_cons (ps_par (i := 3) (j := 4) rfl scHoldsRight.nd rfl rfl (by decide) rfl rfl (pa_cons (pe_cmpR op_notN (pe_hg h_law_is_removal (hrG.mono (by decide)) rfl (pa_cons (pv 1) (pa_cons (pv 2) pa_nil))) pe_non (nomark _)) (pa_cons (pe_callB (cr_repr hrG.gd hu64) (by rfl) T.b_repr (by decide +kernel) (pa_cons (pv 2) pa_nil)) pa_nil)) (by rfl))
  (pss_cons (ps_set (i := 5) scHoldsRight.nd rfl (Or.inl rfl) (pe_lst (pa_cons (pe_hg hremoval_holds (hrG.mono (by decide)) rfl (pa_cons (pv 0) (pa_cons (pv 2) pa_nil))) (pa_cons (pe_hg2 hremoval_holds_k (hrG.mono (by decide)) rfl (pv 2) (pv 0)) pa_nil))))
  (pss_one (ps_ret (pe_and (pe_cmpR op_eq (pe_callB (cr_repr hrG.gd hu64) (by rfl) T.b_repr (by decide +kernel) (pa_cons (pv 5) pa_nil)) (pe_callB (cr_repr hrG.gd hu64) (by rfl) T.b_repr (by decide +kernel) (pa_cons (pe_lst (pa_cons (pv 3) (pa_cons (pv 3) pa_nil))) pa_nil)) (nomark _)) (pe_one (pe_cmpR op_eq (pe_callB (cr_repr hrG.gd hu64) (by rfl) T.b_repr (by decide +kernel) (pa_cons (pv 2) pa_nil)) (pv 4) (nomark _)))))))), ?_⟩
  rintro Rs q ⟨n, R, d, rfl, hl, hR, hs, hd, hq⟩
  rw [outF_eq]
  try dsimp only [cxOf, Cx.nox, Cx.wish]
  show ML.ex 0 _ [some (pu (chartP K C n R)), some (dat K (.tuple (R.map rowD))), some (dat K d), none, none, none] _
  have sh := hd.shows (Nat.le_refl _) (Nat.le_refl _)
  have hds : ∀ ds, d = .tuple ds → ds.length ≤ 100000 ∧ ∀ e ∈ ds, SndB e := fun ds e => by
    subst e
    have h := hd.untup (k := 59)
    exact ⟨h.len, fun e he => snd_of (h.mem e he).ok⟩
  apply x_seq
  refine x_par2 (by decide) (by decide) (by decide) ?_
  k_dat 0 "ml"
  refine c_zero [_, _] ⟨R, d, rfl, hl, fun x hx => (hR x hx).1, hs, fun ds e => (hds ds e).1, ?_⟩
  k_dat 0 "ml"
  refine op_notNb (b := (remD R d).isSome) rd.val rd.val (by cases remD R d <;> rfl) ?_
  generalize hb : (remD R d).isSome = b
  k_dat 0 "ml"
  refine un_reprA rd.val sh.1 sh.2.1 sh.2.2 ⟨_, rfl, _, rfl, ?_⟩
  k_dat 0 "ml"
  refine c_zero [_, _] ⟨n, R, d, rfl, hl, hR, hds, ?_⟩
  rw [hb]
  k_dat 0 "ml"
  refine evA_swap2 ?_
  k_dat 0 "ml"
  refine c_zero [_, _] ⟨n, R, d, rfl, hl, hR, hds, ?_⟩
  rw [hb]
  have sb := bools_shown b b
  k_dat 0 "ml"
  refine un_reprA (.slotL rfl) sb.1 sb.2.1 sb.2.2 ?_
  k_dat 0 "ml"
  refine un_reprA rd.own sb.1 sb.2.1 sb.2.2 ?_
  k_dat 0 "ml"
  refine ⟨fun _ => ?_, fun h => by simp at h⟩
  k_dat 0 "ml"
  refine un_reprA rd.val sh.1 sh.2.1 sh.2.2 ?_
  k_dat 0 "ml"
  rw [decide_eq_true rfl]
  exact ⟨_, [], ret_val rfl, hq⟩
end
end K24

/-! The law itself. -/
namespace K24
open PySem L2 KS GL LB K24m ML
open CH (outs sucs ChC ChartAt cf cf_arrows cf_states ChartOk spInit arrowB labelB)
open PySem.Spec hiding Row
open PyProof.Rows hiding cnt
theorem rem_remL {R gs T : List Row} (h : Rem R gs T) : remL R (gs.map rowD) = some T := by
  induction h with
  | nil => rfl
  | cons a b _ ih => rw [List.map_cons, remL_row, if_pos ⟨a, loopB_iff.mpr b⟩]; exact ih
theorem cut_take {α : Type} (xs : List α) {k : Nat} (h : k ≤ xs.length) : cutA xs none (some (k : Int)) = xs.take k := by
  unfold cutA
  rw [HT.sIx_none, HT.sIx_nat, Nat.min_eq_left h, Nat.sub_zero, List.drop_zero]
theorem rem_mem {R T gs : List Row} (h : Rem R gs T) : ∀ g ∈ gs, g ∈ R := by
  induction h with
  | nil => exact fun _ h => nomatch h
  | cons a _ _ ih =>
    intro g hg
    rcases List.mem_cons.mp hg with rfl | hg
    · exact a
    · exact aft_mem (ih g hg)
theorem Rem.take : ∀ {gs R T : List Row}, Rem R gs T → ∀ i, Rem R (gs.take i) ((gs.take i).foldl aft R)
  | [], R, T, _, i => by
    rw [List.take_nil]
    exact .nil
  | g :: gs, R, T, h, 0 => .nil
  | g :: gs, R, T, h, i + 1 => by
    cases h with
    | cons a b c => exact .cons a b (Rem.take c i)
theorem arr_of {size : Nat} {R : List Row} (ok : ChartOk size R) : ∀ x ∈ R, CH.labelB x.2.1 = true ∧ 0 ≤ x.1 ∧ x.1 < size ∧ -1 ≤ x.2.2 ∧ x.2.2 < size := fun x hx => by
  have h := ok.arr x hx
  unfold arrowB at h
  simp only [Bool.and_eq_true, decide_eq_true_eq] at h
  exact ⟨h.1.1, h.1.2.1, h.1.2.2, h.2.1, h.2.2⟩
theorem Bd.intS {k : Nat} {i : Int} (h1 : -1 ≤ i) (h2 : i < 12) : Bd k 5 (.int i) := by
  have h : i = -1 ∨ i = 0 ∨ i = 1 ∨ i = 2 ∨ i = 3 ∨ i = 4 ∨ i = 5 ∨ i = 6 ∨ i = 7 ∨ i = 8 ∨ i = 9 ∨ i = 10 ∨ i = 11 := by omega
  refine ⟨by rw [okS, decide_eq_true (by omega), decide_eq_true (by omega)]; rfl, by rw [PyData.depth]; exact Nat.zero_le _, ?_⟩
  rcases h with rfl | rfl | rfl | rfl | rfl | rfl | rfl | rfl | rfl | rfl | rfl | rfl | rfl <;> decide +kernel
theorem Bd.rowS {r : Row} (h1 : -1 ≤ r.1 ∧ r.1 < 12) (h2 : Lbl r) (h3 : -1 ≤ r.2.2 ∧ r.2.2 < 12) : Bd 1 21 (rowD r) := by
  unfold rowD
  exact (BdL.cons (k := 0) (Bd.intS h1.1 h1.2) (BdL.cons (Bd.str h2.1 h2.2) (BdL.cons (Bd.intS h3.1 h3.2) (BdL.nil (w := 0))))).tup.mono (Nat.le_refl _) (by decide)
theorem BdL.rowsS : ∀ {R : List Row}, (∀ r ∈ R, Bd 1 21 (rowD r)) → BdL 1 (22 * R.length) (R.map rowD)
  | [], _ => BdL.nil
  | r :: R, h => (BdL.cons (h r List.mem_cons_self) (BdL.rowsS fun x hx => h x (List.mem_cons_of_mem _ hx))).mono (Nat.le_refl _) (by rw [List.length_cons]; omega)
/-- what the law knows of a chart's rows -/
structure LOk (size : Nat) (R : List Row) : Prop where
  ok : ChartOk size R
  sz : size ≤ 12
  len : R.length ≤ 30
  lbl : ∀ r ∈ R, Lbl r
theorem lok_one : LOk 1 [((0 : Int), "a", (0 : Int))] := by
  have g : GrOk ([] ++ [((0 : Int), ("a" : Str), (0 : Int))]) 1 := GrOk.init.add ⟨⟨Int.le_refl _, by show (0 : Int) < 1; decide⟩, ⟨by show (-1 : Int) ≤ 0; decide, by show (0 : Int) < 1; decide⟩, by decide +kernel⟩
  refine ⟨g.chart (ord_rows (List.pairwise_singleton _ _)), by decide, by decide, fun r hr => ?_⟩
  rw [List.mem_singleton.mp hr]
  exact ⟨by decide +kernel, by decide +kernel⟩
section
variable {P : Program} {w : World} {K : PySem.W.Frag} {mg : Str → Option Value} {base : Heap}
set_option hygiene false
local macro_rules | `(tactic| k_dat 0 "rd") => `(tactic| first | with_reducible apply rd.val | with_reducible apply rd.own | (apply rd.slot; apply Eq.refl) | (apply rd.slotL; apply Eq.refl))
local macro_rules | `(tactic| k_dat 0 "rdS") => `(tactic| first | with_reducible (apply rdS.l; apply rd.val) | with_reducible (apply rdS.t; apply rd.val) | with_reducible (apply rdS.l; apply rd.own) | (apply rdS.l; apply rd.slotL; apply Eq.refl) | (apply rdS.l; apply rd.slot; apply Eq.refl) | (apply rdS.t; apply rd.slot; apply Eq.refl))
local macro_rules | `(tactic| k_dat 0 "rdD") => `(tactic| first | with_reducible apply rdD.val | with_reducible apply rdD.own | (apply rdD.slot; apply Eq.refl) | (apply rdD.slotP; apply Eq.refl))
local macro_rules | `(tactic| k_dat 0 "sc") => `(tactic| first | apply Sc.int | apply Sc.bl | apply Sc.str | apply Sc.non)
local macro_rules | `(tactic| k_dat 0 "asD") => `(tactic| first | with_reducible apply asD.val | with_reducible apply asD.own | (apply asD.slot; apply Eq.refl))
local macro_rules | `(tactic| k_dat 0 "asX") => `(tactic| first | with_reducible apply asX.pure | with_reducible apply asX.own | (apply asX.slot; apply Eq.refl) | with_reducible apply asX.keep)
local macro_rules | `(tactic| k_dat 0 "nf") => `(tactic| first | (conv => arg 3; dsimp only [wipeM, List.set, List.map]) | skip)
local macro_rules | `(tactic| k_dat 0 "eq") => `(tactic| first | (dsimp only [wipeM, List.set, List.map]; done) | (dsimp only [wipeM, List.set, List.map]; apply Eq.refl) | apply Eq.refl)
local macro_rules | `(tactic| k_dat 0 "st") => `(tactic| first
  | ((with_reducible apply x_seq); k_dat 0 "nf") | ((with_reducible apply x_parT2); (case hi => omega); (case hj => omega)) | ((with_reducible apply x_asg2); (case hi => omega); (case hj => omega)) | ((with_reducible apply x_asg3); (case hi => omega); (case hj => omega); (case hl => omega)) | ((with_reducible apply x_par4); (case hi => omega); (case hj => omega); (case hk => omega); (case hl => omega)) | ((with_reducible apply x_par2); (case hij => omega); (case hi => omega); (case hj => omega)) | with_reducible first | (apply x_asg; case hl => decide) | apply x_drop | apply x_ret | apply x_next | apply x_break | apply x_cont
  | apply x_dput (K := K) | apply x_putN (K := K) | apply x_retN)
local macro_rules | `(tactic| k_dat 0 "ex") => `(tactic| with_reducible first
  | apply ev_int (K := K) | apply ev_str (K := K) | apply ev_bl (K := K) | apply ev_non (K := K)
  | apply ev_tup (K := K) | apply ev_lst (K := K) | apply ev_op | apply ev_un | apply ev_sset_rows (K := K) | apply ev_sset_ints (K := K) | apply ev_cb1 | apply ev_cb2 | apply ev_andV (K := K) | apply ev_orV (K := K) | apply ev_notV (K := K) | apply ev_if
  | apply ev_sl | apply evO_none | apply evO_some (K := K) | apply ev_rev | apply ev_bm1 | apply ev_bm0 | apply ev_dnew (K := K) | apply ev_disp (K := K) | apply ev_dget1 (K := K) | apply ev_dget2 (K := K) | apply ev_dinI (K := K) | apply ev_dninI (K := K) | apply ev_chainI (K := K)
  | apply ev_call | apply ev_call1
  | apply evD_nil | apply evD_cons | apply evA_nil | apply evA_x (K := K) | apply evPs_nil | apply evPs_cons
  | apply ev_dispN (K := K) | apply evPsN_nil | apply evPsN_cons | apply ev_ninN (K := K) | apply ev_ninR (K := K) | apply ev_dcR (K := K)
  | apply evT_val (K := K) | apply evT_B (K := K) | apply evT_and | apply evT_or | apply evT_not | apply evT_yes)
local macro_rules | `(tactic| k_dat 0 "vr") => `(tactic| first
  | ((with_reducible apply ev_var); (case h => apply Eq.refl)) | ((with_reducible apply ev_at); (case h => apply Eq.refl))
  | ((with_reducible apply x_augI); (case hi => decide); (case h0 => apply Eq.refl)))
local macro_rules | `(tactic| k_dat 0 "tg") => `(tactic| first
  | (with_reducible apply tg_name) | ((with_reducible apply tg_move); (case h => apply Eq.refl)) | ((with_reducible apply tg_tup); (case hn => rfl)) | (with_reducible apply tg_row) | (with_reducible apply tgs_nil) | (with_reducible apply tgs_consN))
local macro_rules | `(tactic| k_dat 0 "len") => `(tactic| ((first | apply lt_line | apply le_line); (try simp only [List.length_map, List.length_append, List.length_cons, List.length_nil, List.length_range]); omega))
local macro_rules | `(tactic| k_dat 0 "op") => `(tactic| first
  | ((with_reducible apply op_i0 (K := K)); (case h1 => k_dat 0 "rd"); (case h2 => k_dat 0 "rd"); (case hd => k_dat 0 "sc"))
  | ((with_reducible apply op_eqI (K := K)); (case h1 => k_dat 0 "rd"); (case h2 => k_dat 0 "rd")) | ((with_reducible apply op_neI (K := K)); (case h1 => k_dat 0 "rd"); (case h2 => k_dat 0 "rd"))
  | ((with_reducible apply op_eqS (K := K)); (case h1 => k_dat 0 "rd"); (case h2 => k_dat 0 "rd")) | ((with_reducible apply op_neS (K := K)); (case h1 => k_dat 0 "rd"); (case h2 => k_dat 0 "rd"))
  | ((with_reducible apply op_ixR0 (K := K)); (case h1 => k_dat 0 "rd"); (case h2 => k_dat 0 "rd")) | ((with_reducible apply op_ixR1 (K := K)); (case h1 => k_dat 0 "rd"); (case h2 => k_dat 0 "rd")) | ((with_reducible apply op_ixR2 (K := K)); (case h1 => k_dat 0 "rd"); (case h2 => k_dat 0 "rd"))
  | ((with_reducible apply un_i (K := K)); (case h1 => k_dat 0 "rd"); (case hd => k_dat 0 "sc"))
  | ((with_reducible apply un_len (K := K)); (case h => k_dat 0 "rdS")) | ((with_reducible apply un_list (K := K)); (case h => k_dat 0 "rdS")) | ((with_reducible apply un_tuple (K := K)); (case h => first | (apply rdS.l; k_dat 0 "rd") | (apply rdS.t; k_dat 0 "rd")))
  | ((with_reducible apply un_int (K := K)); (case h => k_dat 0 "rd")) | ((with_reducible apply un_lenD (K := K)); (case h => k_dat 0 "rdD")) | ((with_reducible apply un_listK (K := K)); (case h => k_dat 0 "rdD"))
  | ((with_reducible apply op_append (K := K)); (case hd => k_dat 0 "asD"); (case e => apply Eq.refl); (case hl => k_dat 0 "len"))
  | ((with_reducible apply op_cat_ (K := K)); (case h1 => k_dat 0 "rd"); (case h2 => k_dat 0 "rd"); (case hl => k_dat 0 "len"))
  | ((with_reducible apply op_max2 (K := K)); (case h1 => k_dat 0 "rd"); (case h2 => k_dat 0 "rd")) | ((with_reducible apply op_min2 (K := K)); (case h1 => k_dat 0 "rd"); (case h2 => k_dat 0 "rd"))
  | ((with_reducible apply sl_list_ (K := K)); (case h1 => k_dat 0 "rd")) | ((with_reducible apply sl_tup_ (K := K)); (case h1 => k_dat 0 "rd")))
local macro_rules | `(tactic| k_dat 0 "sp") => `(tactic| first
  | ((with_reducible (apply Exists.intro; apply And.intro)); (case left => with_reducible apply Eq.refl))
  | ((with_reducible (apply Exists.intro; apply And.intro)); (case left => first | k_dat 0 "rd" | k_dat 0 "rdD"))
  | ((with_reducible apply And.intro); (case left => (with_reducible apply Exists.intro); k_dat 0 "rdD"))
  | ((with_reducible (apply Exists.intro; apply Exists.intro; apply And.intro)); (case left => first | k_dat 0 "asD" | k_dat 0 "asX"))
  | ((with_reducible apply And.intro); (case left => apply len_le; apply Eq.refl))
  | ((with_reducible (apply Exists.intro (Sum.inl _); apply And.intro)); (case left => apply Eq.refl)) | ((with_reducible (apply Exists.intro (Sum.inr _); apply And.intro)); (case left => apply Eq.refl)))
local macro_rules | `(tactic| k_dat 0 "wk") => `(tactic| with_reducible first | apply x_forD (K := K) | apply x_lc (K := K) | apply wkD_list | apply wkD_tup | apply wkD_seq | apply wkD_rng1 | apply wkD_rng2 | apply wkD_str)
local macro_rules | `(tactic| k_dat 0 "ml1") => `(tactic| first | k_dat 0 "st" | k_dat 0 "ex" | k_dat 0 "wk" | k_dat 0 "vr" | k_dat 0 "tg" | k_dat 0 "op" | k_dat 0 "sp")
local macro_rules | `(tactic| k_dat 0 "ml") => `(tactic| repeat k_dat 0 "ml1")
local macro_rules | `(tactic| k_dat 0 "od") => `(tactic| first
  | (with_reducible apply ev_dct0 (K := K))
  | ((with_reducible apply un_boolI (K := K)); (case h => k_dat 0 "rd")))
local macro_rules | `(tactic| k_dat 0 "ml1") => `(tactic| first | k_dat 0 "st" | k_dat 0 "ex" | k_dat 0 "wk" | k_dat 0 "vr" | k_dat 0 "tg" | k_dat 0 "op" | k_dat 0 "sp" | k_dat 0 "od")
abbrev S_law_deck (K : PySem.W.Frag) : Sp := spOf 0 (deckM K)
abbrev S_law_grown (K : PySem.W.Frag) : Sp := spOf 1 (grownM K 12 17)
abbrev S_law_in_turn (K : PySem.W.Frag) : Sp := spOf 1 (inTurnM K)
theorem scLaw : FnScope ["_law_script", "_law_deck_here", "_law_turn", "_law_size", "_law_some", "_law_plan", "_law_told", "_law_left", "_law_row", "_law_it", "_law_k", "_law_bent_here"] ["_law_script"] (defScope sLaw) := ⟨rfl, rfl, rfl, by decide +kernel, rfl, by decide +kernel, by decide +kernel⟩
theorem ok_law2 {f fI C : Addr} {fd fdI : FuncData} (G : Fun K "law" "law" sLaw f fd) (T : CH.Blt2 mg) (CC : ChC K mg C) (CM : Mk K C fI) (CI : FnOk P w K mg base CX0 4 fI fdI ["self", "states", "arrows"] (spInit K C)) (CB : Binds K fdI ["self", "states", "arrows"] [])
    (h_law_deck : HasM P w K mg base "_law_deck" 1 ["_law_script"] (S_law_deck K)) (h_law_draw : HasM P w K mg base "_law_draw" 1 ["_law_deck_here", "_law_many"] (S_law_draw K)) (h_law_grown : HasM P w K mg base "_law_grown" 4 ["_law_deck_here", "_law_top", "_law_turns_here"] (S_law_grown K)) (h_law_in_turn : HasM P w K mg base "_law_in_turn" 3 ["_law_deck_here", "_law_some"] (S_law_in_turn K))
    (h_law_is_loop : HasM P w K mg base "_law_is_loop" 2 ["_law_some", "_law_row"] (S_law_is_loop K)) (h_law_is_removal : HasM P w K mg base "_law_is_removal" 3 ["_law_some", "_law_it"] (S_law_is_removal K)) (hremoval_of : HasM P w K mg base "removal_of" 5 ["chart"] (spOf 0 (removalM K C))) (hremoval_of_k : HasM1 P w K mg base "removal_of" 5 "chart" (spOf 0 (removalM K C)))
    (hremoval_holds : HasM P w K mg base "removal_holds" 5 ["chart", "thing"] (spOf 0 (holdsA K C))) (h_law_bent : HasM P w K mg base "_law_bent" 4 ["_law_deck_here", "_law_some", "_law_it"] (S_law_bent K)) (h_law_holds_right : HasM P w K mg base "_law_holds_right" 6 ["_law_plan", "_law_some", "_law_it"] (spOf 0 (holdsRM K C))) :
    FnG P w K mg base CX0 7 f fd ["_law_script"] (spOf 0 (lawM K)) := by
  refine fn_ml G scLaw (fun Rs q ⟨_, h, _⟩ => by rw [h]; rfl) (by decide) fun cdv A outer s H E hrG => ?_
  have hr := hrG.room
  have hu := hu_of hr
  have hu64 := hr.units
  have hrI : Room 5 _ := hr.mono (by decide)
  refine ⟨_, (pss_cons (ps_set (i := 1) scLaw.nd rfl (Or.inl rfl) (pe_hg h_law_deck (hrG.mono (by decide)) rfl (pa_cons (pv 0) pa_nil)))
  (pss_cons (ps_for PassesOwn.never rfl (pi_range1 (by rfl) T.b_range (pa_cons pe_int pa_nil)) (pg_name (i := 2) scLaw.nd rfl (Or.inl rfl))
    (pss_cons (ps_asg (pe_hg h_law_grown (hrG.mono (by decide)) rfl (pa_cons (pv 1) (pa_cons pe_int (pa_cons pe_int pa_nil)))) (pg_tup (n := 2) rfl (pgs_cons (pg_name (i := 3) scLaw.nd rfl (Or.inl rfl)) (pgs_cons (pg_name (i := 4) scLaw.nd rfl (Or.inl rfl)) pgs_nil))))
  (pss_cons (ps_asg (pe_ifExp (pt_cmpR op_lt (pe_callB call_lenQ (by rfl) T.b_len PySem.boot_len (pa_cons (pv 4) pa_nil)) pe_int (nomark _)) (pe_tup (pa_cons (pv 3) (pa_cons (pv 4) pa_nil))) (pe_tup (pa_cons pe_int (pa_cons (pe_tup (pa_cons (pe_tup (pa_cons pe_int (pa_cons pe_str (pa_cons pe_int pa_nil)))) pa_nil)) pa_nil)))) (pg_tup (n := 2) rfl (pgs_cons (pg_name (i := 3) scLaw.nd rfl (Or.inl rfl)) (pgs_cons (pg_name (i := 4) scLaw.nd rfl (Or.inl rfl)) pgs_nil))))
  (pss_cons (ps_set (i := 5) scLaw.nd rfl (Or.inl rfl) (pe_make CM CI hrI rfl CC.mgC CB .nil pass0 (pa_cons (pv 3) (pa_cons (pv 4) pa_nil))))
  (pss_cons (ps_set (i := 6) scLaw.nd rfl (Or.inl rfl) (pe_hg hremoval_of (hrG.mono (by decide)) rfl (pa_cons (pv 5) pa_nil)))
  (pss_cons (ps_set (i := 7) scLaw.nd rfl (Or.inr rfl) (pe_hg h_law_is_removal (hrG.mono (by decide)) rfl (pa_cons (pv 4) (pa_cons (pv 6) pa_nil))))
  (pss_cons (ps_if (PW.pt (pw_or (pt_cmpR op_isN (pv 7) pe_non (nomark _)) (pw_or (pt_cmpR (op_neD hu64) (pe_lc (own := [("_law_row", 8)]) (g := gName 8) (tt := (tB (tCall (S_law_is_loop K) [] E0 (tCons (tVar 7) (tCons (tVar 8) tNil))))) (te := (tVar 8)) rfl scLaw.nd (pi_list (pv 7)) (blkOk_by (own := [("_law_row", 8)]) (N := ["_law_script", "_law_deck_here", "_law_turn", "_law_size", "_law_some", "_law_plan", "_law_told", "_law_left", "_law_row", "_law_it", "_law_k", "_law_bent_here"]) (sc := defScope sLaw) (by decide +kernel)) (fun _ _ _ _ _ => (pg_name (i := 8) scLaw.nd rfl (by first | exact Or.inl rfl | exact Or.inr rfl))) (fun _ _ _ _ _ => pts_one (pt_val (pe_hg h_law_is_loop (hrG.mono (by decide)) rfl (pa_cons (pv 7) (pa_cons (pv 8) pa_nil))))) (fun _ _ _ _ _ => (pv 8))) (pe_lst pa_nil) (nomark _)) (pw_or1 (pt_cmpR (op_neD hu64) (pe_hg1 hremoval_of_k (hrG.mono (by decide)) rfl (pv 5)) (pv 6) (nomark _))))))
    (pss_one (ps_ret pe_bl))
    pss_nil)
  (pss_cons (ps_for PassesOwn.never rfl (pi_list (pe_lst (pa_cons (pv 6) (pa_cons (pe_ix ix_tup (pe_hg h_law_in_turn (hrG.mono (by decide)) rfl (pa_cons (pv 1) (pa_cons (pv 4) pa_nil))) pe_int (fun _ _ => rfl)) (pa_cons (pe_ix ix_tup (pe_hg h_law_in_turn (hrG.mono (by decide)) rfl (pa_cons (pv 1) (pa_cons (pv 4) pa_nil))) pe_int (fun _ _ => rfl)) pa_nil))))) (pg_name (i := 9) scLaw.nd rfl (Or.inl rfl))
    (pss_cons (ps_for PassesOwn.never rfl (pi_range1 (by rfl) T.b_range (pa_cons (pe_op op_add (pe_callB call_lenQ (by rfl) T.b_len PySem.boot_len (pa_cons (pv 9) pa_nil)) pe_int) pa_nil)) (pg_name (i := 10) scLaw.nd rfl (Or.inl rfl))
    (pss_one (ps_if (pt_not (pt_val (pe_hg hremoval_holds (hrG.mono (by decide)) rfl (pa_cons (pv 5) (pa_cons (pe_slice sl_tupA (pv 9) po_none (po_some (pv 10))) pa_nil)))))
    (pss_one (ps_ret pe_bl))
    pss_nil)))
  (pss_one (ps_for PassesOwn.never rfl (pi_range1 (by rfl) T.b_range (pa_cons pe_int pa_nil)) (pg_name (i := 10) scLaw.nd rfl (Or.inl rfl))
    (pss_cons (ps_set (i := 11) scLaw.nd rfl (Or.inl rfl) (pe_hg h_law_bent (hrG.mono (by decide)) rfl (pa_cons (pv 1) (pa_cons (pv 4) (pa_cons (pv 9) pa_nil)))))
  (pss_cons (ps_if (PW.pt (pw_and (pt_cmpR op_eq (pe_hg h_law_draw (hrG.mono (by decide)) rfl (pa_cons (pv 1) (pa_cons pe_int pa_nil))) pe_int (nomark _)) (pw_and1 (pt_val (pe_callB call_isi (by rfl) T.b_isinstance (by decide +kernel) (pa_cons (pv 11) (pa_cons (pe_bltn (u := .type "tuple") (v := .ty "tuple") rfl T.b_tuple (by decide +kernel) rfl) pa_nil)))))))
    (pss_one (ps_set (i := 11) scLaw.nd rfl (Or.inl rfl) (pe_hg h_law_bent (hrG.mono (by decide)) rfl (pa_cons (pv 1) (pa_cons (pv 4) (pa_cons (pv 11) pa_nil))))))
    pss_nil)
  (pss_one (ps_if (pt_not (pt_val (pe_hg h_law_holds_right (hrG.mono (by decide)) rfl (pa_cons (pv 5) (pa_cons (pv 4) (pa_cons (pv 11) pa_nil))))))
    (pss_one (ps_ret pe_bl))
    pss_nil))))))))
  (pss_one (ps_if (pt_cmpR op_ne (pe_callB (cr_repr hrG.gd hu64) (by rfl) T.b_repr (by decide +kernel) (pa_cons (pe_tup (pa_cons (pe_fld (pv 5) rfl) (pa_cons (pe_fld (pv 5) rfl) pa_nil))) pa_nil)) (pe_callB (cr_repr hrG.gd hu64) (by rfl) T.b_repr (by decide +kernel) (pa_cons (pe_tup (pa_cons (pv 3) (pa_cons (pv 4) pa_nil))) pa_nil)) (nomark _))
    (pss_one (ps_ret pe_bl))
    pss_nil))))))))))
  (pss_one (ps_ret pe_bl)))), ?_⟩
  rintro Rs q ⟨ns, rfl, hns, hq⟩
  rw [outF_eq]
  try dsimp only [cxOf, Cx.nox, Cx.wish]
  show ML.ex 0 _ [some (pu (scriptP K ns)), none, none, none, none, none, none, none, none, none, none, none] _
  k_dat 0 "ml"
  refine c_zero [_] ⟨ns, rfl, ?_⟩
  k_dat 0 "ml"
  refine ⟨by decide, by decide, ?_⟩
  refine for_pre (List.range 4) _ rfl (fun pre ρ' => ∃ (m : Nat) (x2 x3 x4 x5 x6 x7 x9 x10 x11 : Option Res), ρ' = [some (pu (scriptP K ns)), some (deck m), x2, x3, x4, x5, x6, x7, none, x9, x10, x11] ∧ m ≤ 1000 * pre.length) ⟨0, none, none, none, none, none, none, none, none, none, rfl, Nat.le_refl _⟩ ?_ ?_
  · rintro pre x post ρ' epre ⟨m, x2, x3, x4, x5, x6, x7, x9, x10, x11, rfl, hm⟩
    have hpl : pre.length < 4 := by
      have := congrArg List.length epre
      simp at this
      omega
    refine ⟨[2], by decide, ?_⟩
    k_dat 0 "ml"
    apply c_one [_, _] (Eq.refl _)
    refine ⟨m, rfl, by omega, fun m1 size0 R0 hm1 hs0 hl0 hR0 gr sR0 => ⟨_, rfl, ?_⟩⟩
    have ok0 : ChartOk size0 R0 := gr.chart (ord_rows sR0)
    have hlb0 : ∀ r ∈ R0, Lbl r := fun r hr => by
      have h2 := sign_ok _ (hR0 r hr).2.1
      exact ⟨h2.1, h2.2.1⟩
    iterate 6 (k_dat 0 "ml1")
    with_reducible apply x_seq
    k_dat 0 "nf"
    with_reducible apply x_asg2
    case hi => omega
    case hj => omega
    refine ev_mono (Q := fun r ρ1 => ∃ (size : Nat) (R : List Row), r = .val (dat K (.tuple [.int size, .tuple (R.map rowD)])) ∧ LOk size R ∧ ∃ y3 y4, ρ1 = [some (pu (scriptP K ns)), some (deck m1), some (dat K (.int x)), y3, y4, x5, x6, x7, none, x9, x10, x11]) ?_ ?_
    · k_dat 0 "ml"
      refine ⟨fun h => ?_, fun h => ?_⟩
      · have hl30 : R0.length ≤ 30 := by
          have := of_decide_eq_true h
          rw [List.length_map] at this
          omega
        k_dat 0 "ml"
        exact ⟨size0, R0, rfl, ⟨ok0, hs0, hl30, hlb0⟩, _, _, rfl⟩
      · k_dat 0 "ml"
        exact ⟨1, [((0 : Int), "a", (0 : Int))], rfl, lok_one, _, _, rfl⟩
    rintro _ _ ⟨size, R, rfl, ⟨ok, hsz, hl, hlb⟩, y3, y4, rfl⟩
    have harr := arr_of ok
    have hs1 : ∀ x ∈ R, x.1 ≠ -1 := fun x hx z => by
      have h := (harr x hx).2.1
      omega
    have hab : ∀ x ∈ R, Lbl x ∧ arrowB size x.1 x.2.1 x.2.2 = true := fun x hx => ⟨hlb x hx, ok.arr x hx⟩
    have hrow : ∀ r ∈ R, Bd 1 21 (rowD r) := fun r hr => by
      have h := harr r hr
      exact Bd.rowS ⟨by omega, by omega⟩ (hlb r hr) ⟨h.2.2.2.1, by omega⟩
    k_dat 0 "ml"
    refine ev_make (K := K) ?_
    k_dat 0 "ml"
    refine ⟨size, R, rfl, by omega, ok, ?_⟩
    k_dat 0 "ml"
    refine c_zero [_] ⟨size, R, rfl, by omega, hlb, fun gs0 T0 hrem0 hd0 hg0 he0 => ?_⟩
    have hgR := rem_mem hrem0
    k_dat 0 "ml"
    refine c_zero [_, _] ⟨R, .tuple (gs0.map rowD), rfl, by omega, hlb, hs1, fun ds e => by cases e; rw [List.length_map]; omega, ?_⟩
    rw [show remD R (.tuple (gs0.map rowD)) = some T0 from rem_remL hrem0]
    k_dat 0 "ml"
    apply x_if
    k_dat 0 "ml"
    refine op_isN_ rd.val rd.val ?_
    refine ⟨_, rfl, fun h => Bool.noConfusion h, fun _ => ?_⟩
    k_dat 0 "ml"
    have hT0 : ∀ e ∈ T0, e ∈ R := fun e he => hrem0.sub.subset he
    have hT0l := hrem0.sub.length_le
    refine lc_fm T0 rowD rfl (by omega) (fun _ => false) rowD (fun r hr => ⟨[8], by decide, ?_⟩) ?_
    · k_dat 0 "ml"
      refine c_zero [_, _] ⟨_, T0, r, rfl, .inl rfl, by omega, fun x hx => hs1 x (hT0 x hx), fun x hx => hlb x (hT0 x hx), ?_⟩
      have hlf : loopB T0 r = false := by
        cases hb : loopB T0 r with
        | false => rfl
        | true => exact absurd (loopB_iff.mp hb) (hd0 r hr)
      rw [hlf]
      k_dat 0 "ml"
      refine ⟨fun h => Bool.noConfusion h, fun _ => ⟨rfl, by k_dat 0 "eq"⟩⟩
    rw [show T0.filter (fun _ => false) = [] from by simp, List.map_nil]
    k_dat 0 "ml"
    refine op_dne rd.own rd.own shaped_nil shaped_nil ⟨_, rfl, ?_⟩
    rw [eqv_list_nil]
    refine ⟨fun h => Bool.noConfusion h, fun _ => ?_⟩
    k_dat 0 "ml"
    refine c_zero [_] ⟨size, R, rfl, by omega, hlb, fun gs1 T1 hrem1 hd1 hg1 he1 => ?_⟩
    rw [he1, ← he0]
    k_dat 0 "ml"
    refine op_dne rd.val rd.val (shaped_rowsT fun e he => hlb e (hgR e he)) (shaped_rowsT fun e he => hlb e (hgR e he)) ⟨_, rfl, ?_⟩
    rw [eqv_rowsT, decide_eq_true rfl]
    refine ⟨fun h => Bool.noConfusion h, fun _ => ?_⟩
    k_dat 0 "ml"
    apply c_one [_] (Eq.refl _)
    refine ⟨m1, R, rfl, by omega, by omega, hs1, hlb, fun m2 gsA TA hm2 hremA hdA hgA => ⟨_, rfl, ?_⟩⟩
    k_dat 0 "ml"
    refine op_ixT rd.val rd.val rfl ?_
    k_dat 0 "ml"
    apply c_one [_] (Eq.refl _)
    refine ⟨m2, R, rfl, by omega, by omega, hs1, hlb, fun m3 gsB TB hm3 hremB hdB hgB => ⟨_, rfl, ?_⟩⟩
    k_dat 0 "ml"
    refine op_ixT rd.val rd.val rfl ?_
    k_dat 0 "ml"
    have hall : ∀ gs ∈ [gs0, gsA, gsB], ∃ T, Rem R gs T ∧ gs.length ≤ R.length := fun gs h => by
      simp only [List.mem_cons, List.not_mem_nil, or_false] at h
      rcases h with rfl | rfl | rfl
      · exact ⟨_, hrem0, hg0⟩
      · exact ⟨_, hremA, hgA⟩
      · exact ⟨_, hremB, hgB⟩
    refine for_pre [gs0, gsA, gsB] (fun gs => .tuple (gs.map rowD)) rfl (fun pr2 ρ' => ∃ (m' : Nat) (y9 y10 y11 : Option Res), ρ' = [some (pu (scriptP K ns)), some (deck m'), some (dat K (.int x)), some (dat K (.int size)), some (dat K (.tuple (R.map rowD))), some (pu (chartP K C size R)), some (dat K (.tuple (gs0.map rowD))), some (dat K (.list (T0.map rowD))), none, y9, y10, y11] ∧ m' ≤ m3 + 100 * pr2.length) ⟨m3, x9, x10, x11, rfl, by simp⟩ ?_ ?_
    · rintro pr2 gs po2 ρ' ep2 ⟨m4, y9, y10, y11, rfl, hm4⟩
      have hp2 : pr2.length < 3 := by
        have := congrArg List.length ep2
        simp at this
        omega
      obtain ⟨T, hrem, hgl⟩ := hall gs (by rw [ep2]; simp)
      have hgm := rem_mem hrem
      have bgs : BdL 1 660 (gs.map rowD) := (BdL.rowsS fun r hr => hrow r (hgm r hr)).mono (Nat.le_refl _) (by omega)
      refine ⟨[9], by decide, ?_⟩
      k_dat 0 "ml"
      refine ⟨by rw [List.length_map]; omega, by omega, ?_⟩
      refine for_pre (List.range (((gs.map rowD).length : Int) + 1).toNat) _ rfl (fun _ ρ' => ∃ y10 : Option Res, ρ' = [some (pu (scriptP K ns)), some (deck m4), some (dat K (.int x)), some (dat K (.int size)), some (dat K (.tuple (R.map rowD))), some (pu (chartP K C size R)), some (dat K (.tuple (gs0.map rowD))), some (dat K (.list (T0.map rowD))), none, some (dat K (.tuple (gs.map rowD))), y10, y11]) ⟨y10, rfl⟩ ?_ ?_
      · rintro pr3 k po3 ρ' ep3 ⟨y10, rfl⟩
        have hk : k ≤ gs.length := by
          have h : k ∈ List.range (((gs.map rowD).length : Int) + 1).toNat := by rw [ep3]; simp
          rw [List.mem_range, List.length_map] at h
          omega
        refine ⟨[10], by decide, ?_⟩
        k_dat 0 "ml"
        apply x_if
        k_dat 0 "ml"
        refine c_zero [_, _] ⟨size, R, .tuple (cutA (gs.map rowD) none (some (k : Int))), rfl, by omega, hab, ?_, ?_⟩
        · intro ds e
          cases e
          have hb := bgs.cut none (some (k : Int))
          exact ⟨Nat.le_trans hb.len (by decide), fun e he => snd_of (hb.mem e he).ok⟩
        rw [cut_take _ (by rw [List.length_map]; exact hk), ← List.map_take, show remD R (.tuple ((gs.take k).map rowD)) = some _ from rem_remL (hrem.take k)]
        refine ⟨_, rfl, fun h => by simp at h, fun _ => ?_⟩
        k_dat 0 "ml"
        exact ⟨_, rfl⟩
      rintro ρ' ⟨y10, rfl⟩
      k_dat 0 "ml"
      refine ⟨by decide, by decide, ?_⟩
      refine for_pre (List.range 3) _ rfl (fun pr4 ρ' => ∃ (m5 : Nat) (y10 y11 : Option Res), ρ' = [some (pu (scriptP K ns)), some (deck m5), some (dat K (.int x)), some (dat K (.int size)), some (dat K (.tuple (R.map rowD))), some (pu (chartP K C size R)), some (dat K (.tuple (gs0.map rowD))), some (dat K (.list (T0.map rowD))), none, some (dat K (.tuple (gs.map rowD))), y10, y11] ∧ m5 ≤ m4 + 25 * pr4.length) ⟨m4, y10, y11, rfl, by simp⟩ ?_ ?_
      · rintro pr4 k po4 ρ' ep4 ⟨m5, y10, y11, rfl, hm5⟩
        have hp4 : pr4.length < 3 := by
          have := congrArg List.length ep4
          simp at this
          omega
        refine ⟨[10], by decide, ?_⟩
        k_dat 0 "ml"
        apply c_one [_, _] (Eq.refl _)
        refine ⟨m5, 1, 660, R, gs.map rowD, rfl, by omega, by omega, fun r hr => (hrow r hr).mono (Nat.le_refl _) (by decide), Nat.le_refl _, by decide, bgs, fun m6 d1 hm6 hB1 => ⟨_, rfl, ?_⟩⟩
        k_dat 0 "ml"
        have hB1 : Bd 4 3700 d1 := hB1
        refine ex_mono (Φ := ⟨fun ρ' => ∃ (m7 : Nat) (d2 : PyData), ρ' = [some (pu (scriptP K ns)), some (deck m7), some (dat K (.int x)), some (dat K (.int size)), some (dat K (.tuple (R.map rowD))), some (pu (chartP K C size R)), some (dat K (.tuple (gs0.map rowD))), some (dat K (.list (T0.map rowD))), none, some (dat K (.tuple (gs.map rowD))), some (dat K (.int k)), some (dat K d2)] ∧ m7 ≤ m5 + 21 ∧ Bd 60 100000 d2, fun r ρ' => ∃ R_1 Rs', retR 0 r ρ' R_1 Rs' ∧ q R_1 Rs', fun _ => False, fun _ => False⟩) ?_ ?_ (fun _ _ h => h) (fun _ h => h.elim) (fun _ h => h.elim)
        · apply x_if
          k_dat 0 "ml"
          refine c_draw rfl (by omega) (by omega) (by omega) fun z z0 z1 => ?_
          k_dat 0 "ml"
          refine ⟨fun _ => evT_B (K := K) (ev_isiA kit_tuple (ev_var rfl ⟨d1, rd.val, isTup d1, rfl, fun h => ?_, fun h => ?_⟩)), fun _ => ?_⟩
          · obtain ⟨ds, rfl⟩ : ∃ ds, d1 = .tuple ds := by cases d1 <;> first | exact ⟨_, rfl⟩ | cases h
            k_dat 0 "ml"
            apply c_one [_, _] (Eq.refl _)
            refine ⟨m6 + 1, 3, 3700, R, ds, rfl, by omega, by omega, fun r hr => (hrow r hr).mono (Nat.le_refl _) (by decide), by decide, by decide, Bd.untup hB1, fun m8 d2 hm8 hB => ⟨_, rfl, ?_⟩⟩
            k_dat 0 "ml"
            exact ⟨m8, d2, rfl, by omega, hB.mono (by decide) (by decide)⟩
          · k_dat 0 "ml"
            exact ⟨m6 + 1, d1, rfl, by omega, hB1.mono (by decide) (by decide)⟩
          · refine ⟨fun h => Bool.noConfusion h, fun _ => ?_⟩
            k_dat 0 "ml"
            exact ⟨m6 + 1, d1, rfl, by omega, hB1.mono (by decide) (by decide)⟩
        rintro ρ' ⟨m7, d2, rfl, hm7, hB2⟩
        k_dat 0 "ml"
        apply x_if
        k_dat 0 "ml"
        refine c_zero [_, _, _] ⟨size, R, d2, rfl, by omega, hab, hs1, hB2, ?_⟩
        refine ⟨_, rfl, fun h => by simp at h, fun _ => ?_⟩
        k_dat 0 "ml"
        exact ⟨m7, _, _, rfl, by rw [List.length_append]; show m7 ≤ m4 + 25 * (pr4.length + 1); omega⟩
      rintro ρ' ⟨m5, y10, y11, rfl, hm5⟩
      have hm5 : m5 ≤ m4 + 75 := hm5
      k_dat 0 "ml"
      exact ⟨m5, _, _, _, rfl, by rw [List.length_append]; show m5 ≤ m3 + 100 * (pr2.length + 1); omega⟩
    · rintro ρ' ⟨m4, y9, y10, y11, rfl, hm4⟩
      have hm4 : m4 ≤ m3 + 300 := hm4
      have bsz : Bd 3 1000 (.tuple [.int size, .tuple (R.map rowD)]) := ((BdL.cons (k := 2) (Bd.int (i := size) ⟨by omega, by omega⟩) (BdL.cons (BdL.rowsS hrow).tup (BdL.nil (w := 0)))).tup).mono (Nat.le_refl _) (by omega)
      have sh := bsz.shows (by decide) (by decide)
      k_dat 0 "ml"
      apply x_if
      k_dat 0 "ml"
      refine ev_states CC rfl ?_
      k_dat 0 "ml"
      refine ev_arrows CC rfl ?_
      k_dat 0 "ml"
      refine un_repr rd.val ⟨_, .inr rfl⟩ sh.1 sh.2.1 sh.2.2 ?_
      k_dat 0 "ml"
      refine un_repr rd.val ⟨_, .inr rfl⟩ sh.1 sh.2.1 sh.2.2 ?_
      k_dat 0 "ml"
      refine ⟨fun h => by simp at h, fun _ => ?_⟩
      k_dat 0 "ml"
      exact ⟨m4, _, _, _, _, _, _, _, _, _, rfl, by rw [List.length_append]; show m4 ≤ 1000 * (pre.length + 1); omega⟩
  · rintro ρ' ⟨m, x2, x3, x4, x5, x6, x7, x9, x10, x11, rfl, hm⟩
    k_dat 0 "ml"
    exact ⟨_, [], ret_val rfl, hq⟩
end
end K24

namespace K24
open PySem L2 KS GL LB K24m
open ML
open PySem.Spec hiding Row
open PyProof.Rows hiding cnt
theorem all_mk {l : PySem.W.OpenLaw} {w : World} {K : PySem.W.Frag} {h : Heap} {mg : Str → Option Value} {fa f1 f2 f3 f4 f5 f6 f7 f8 f9 f10 f11 f12 f13 f14 f15 f16 f17 f18 f19 f20 f21 f22 f23 f24 f25 f26 f27 f28 f29 f30 f31 f32 f33 f34 f35 CChart aTRESERVED : Addr} (X : K.In h) (G : h.Ns mainGlobals mg) (hfa : mg "law" = some (.ref fa))
    {od1 an1 od2 an2 od3 an3 od4 an4 od5 an5 od6 an6 od7 an7 od8 an8 od9 an9 od10 an10 od11 an11 od12 an12 od13 an13 od14 an14 od15 an15 od16 an16 od17 an17 od18 an18 od19 an19 od20 an20 od21 an21 od22 an22 od23 an23 od24 an24 od25 an25 od26 an26 od27 an27 od28 an28 od29 an29 od30 an30 od31 an31 od32 an32 od33 an33 od34 an34 od35 an35 : Option Addr} {sl1 sl2 sl3 sl4 sl5 sl6 sl7 sl8 sl9 sl10 sl11 sl12 sl13 sl14 sl15 sl16 sl17 sl18 sl19 sl20 sl21 sl22 sl23 sl24 sl25 sl26 sl27 sl28 sl29 sl30 sl31 sl32 sl33 sl34 sl35 : Array (Option Value)} {oc1 kV1 dc1 pm1 cd1 ct1 oc2 kV2 dc2 pm2 cd2 ct2 oc3 kV3 dc3 pm3 cd3 ct3 oc4 kV4 dc4 pm4 cd4 ct4 oc5 kV5 dc5 pm5 cd5 ct5 oc6 kV6 dc6 pm6 cd6 ct6 oc7 kV7 dc7 pm7 cd7 ct7 oc8 kV8 dc8 pm8 cd8 ct8 oc9 kV9 dc9 pm9 cd9 ct9 oc10 kV10 dc10 pm10 cd10 ct10 oc11 kV11 dc11 pm11 cd11 ct11 oc12 kV12 dc12 pm12 cd12 ct12 oc13 kV13 dc13 pm13 cd13 ct13 oc14 kV14 dc14 pm14 cd14 ct14 oc15 kV15 dc15 pm15 cd15 ct15 oc16 kV16 dc16 pm16 cd16 ct16 oc17 kV17 dc17 pm17 cd17 ct17 oc18 kV18 dc18 pm18 cd18 ct18 oc19 kV19 dc19 pm19 cd19 ct19 oc20 kV20 dc20 pm20 cd20 ct20 oc21 kV21 dc21 pm21 cd21 ct21 oc22 kV22 dc22 pm22 cd22 ct22 oc23 kV23 dc23 pm23 cd23 ct23 oc24 kV24 dc24 pm24 cd24 ct24 oc25 kV25 dc25 pm25 cd25 ct25 oc26 kV26 dc26 pm26 cd26 ct26 oc27 kV27 dc27 pm27 cd27 ct27 oc28 kV28 dc28 pm28 cd28 ct28 oc29 kV29 dc29 pm29 cd29 ct29 oc30 kV30 dc30 pm30 cd30 ct30 oc31 kV31 dc31 pm31 cd31 ct31 oc32 kV32 dc32 pm32 cd32 ct32 oc33 kV33 dc33 pm33 cd33 ct33 oc34 kV34 dc34 pm34 cd34 ct34 oc35 kV35 dc35 pm35 cd35 ct35 : Value} {tk1 tk2 tk3 tk4 tk5 tk6 : Tok}
    {odTRESERVED : Option Addr} {itTRESERVED : Array Value} {nTRESERVED : Nat} {slTRESERVED : Array (Option Value)}
    (gCChart : PySem.W.nsIn K mainGlobals "Chart" = some (some (.ref CChart)))
    (a1 : PySem.W.nsIn K mainGlobals "nexts_of" = some (some (.ref f1)))
    (l1 : K.lookup f1 = some ⟨oc1, od1, .func (PySem.W.fnOf "nexts_of" "nexts_of" (defArgs sNexts) (defBody sNexts) (defScope sNexts) .none kV1 dc1 pm1 an1 cd1 ct1), sl1⟩)
    (c1 : PySem.W.codeIn K cd1 "nexts_of" = true)
    (k1 : PySem.W.keepIn K (.ref f1) = true)
    (a2 : PySem.W.nsIn K mainGlobals "states_from" = some (some (.ref f2)))
    (l2 : K.lookup f2 = some ⟨oc2, od2, .func (PySem.W.fnOf "states_from" "states_from" (defArgs sFrom) (defBody sFrom) (defScope sFrom) .none kV2 dc2 pm2 an2 cd2 ct2), sl2⟩)
    (c2 : PySem.W.codeIn K cd2 "states_from" = true)
    (k2 : PySem.W.keepIn K (.ref f2) = true)
    (a3 : PySem.W.nsIn K mainGlobals "endless_states" = some (some (.ref f3)))
    (l3 : K.lookup f3 = some ⟨oc3, od3, .func (PySem.W.fnOf "endless_states" "endless_states" (defArgs sEndless) (defBody sEndless) (defScope sEndless) .none kV3 dc3 pm3 an3 cd3 ct3), sl3⟩)
    (c3 : PySem.W.codeIn K cd3 "endless_states" = true)
    (k3 : PySem.W.keepIn K (.ref f3) = true)
    (a4 : PySem.W.nsIn K mainGlobals "has_cycle" = some (some (.ref f4)))
    (l4 : K.lookup f4 = some ⟨oc4, od4, .func (PySem.W.fnOf "has_cycle" "has_cycle" (defArgs sHas) (defBody sHas) (defScope sHas) .none kV4 dc4 pm4 an4 cd4 ct4), sl4⟩)
    (c4 : PySem.W.codeIn K cd4 "has_cycle" = true)
    (k4 : PySem.W.keepIn K (.ref f4) = true)
    (a5 : PySem.W.nsIn K mainGlobals "is_loop_arrow" = some (some (.ref f5)))
    (l5 : K.lookup f5 = some ⟨oc5, od5, .func (PySem.W.fnOf "is_loop_arrow" "is_loop_arrow" (defArgs sLoop) (defBody sLoop) (defScope sLoop) .none kV5 dc5 pm5 an5 cd5 ct5), sl5⟩)
    (c5 : PySem.W.codeIn K cd5 "is_loop_arrow" = true)
    (k5 : PySem.W.keepIn K (.ref f5) = true)
    (a6 : PySem.W.nsIn K mainGlobals "first_loop" = some (some (.ref f6)))
    (l6 : K.lookup f6 = some ⟨oc6, od6, .func (PySem.W.fnOf "first_loop" "first_loop" (defArgs sFirst) (defBody sFirst) (defScope sFirst) .none kV6 dc6 pm6 an6 cd6 ct6), sl6⟩)
    (c6 : PySem.W.codeIn K cd6 "first_loop" = true)
    (k6 : PySem.W.keepIn K (.ref f6) = true)
    (a7 : PySem.W.nsIn K mainGlobals "live_arrows" = some (some (.ref f7)))
    (l7 : K.lookup f7 = some ⟨oc7, od7, .func (PySem.W.fnOf "live_arrows" "live_arrows" (defArgs sLive) (defBody sLive) (defScope sLive) .none kV7 dc7 pm7 an7 cd7 ct7), sl7⟩)
    (c7 : PySem.W.codeIn K cd7 "live_arrows" = true)
    (k7 : PySem.W.keepIn K (.ref f7) = true)
    (a8 : PySem.W.nsIn K mainGlobals "without_arrow" = some (some (.ref f8)))
    (l8 : K.lookup f8 = some ⟨oc8, od8, .func (PySem.W.fnOf "without_arrow" "without_arrow" (defArgs sWithout) (defBody sWithout) (defScope sWithout) .none kV8 dc8 pm8 an8 cd8 ct8), sl8⟩)
    (c8 : PySem.W.codeIn K cd8 "without_arrow" = true)
    (k8 : PySem.W.keepIn K (.ref f8) = true)
    (a9 : PySem.W.nsIn K mainGlobals "removal_of" = some (some (.ref f9)))
    (l9 : K.lookup f9 = some ⟨oc9, od9, .func (PySem.W.fnOf "removal_of" "removal_of" (defArgs sRemoval) (defBody sRemoval) (defScope sRemoval) .none kV9 dc9 pm9 an9 cd9 ct9), sl9⟩)
    (c9 : PySem.W.codeIn K cd9 "removal_of" = true)
    (k9 : PySem.W.keepIn K (.ref f9) = true)
    (a10 : PySem.W.nsIn K mainGlobals "is_label" = some (some (.ref f10)))
    (l10 : K.lookup f10 = some ⟨oc10, od10, .func (PySem.W.fnOf "is_label" "is_label" (defArgs CH.sLabel) (defBody CH.sLabel) (defScope CH.sLabel) .none kV10 dc10 pm10 an10 cd10 ct10), sl10⟩)
    (c10 : PySem.W.codeIn K cd10 "is_label" = true)
    (k10 : PySem.W.keepIn K (.ref f10) = true)
    (a11 : PySem.W.nsIn K mainGlobals "is_integer" = some (some (.ref f11)))
    (l11 : K.lookup f11 = some ⟨oc11, od11, .func (PySem.W.fnOf "is_integer" "is_integer" (defArgs CH.sInt) (defBody CH.sInt) (defScope CH.sInt) .none kV11 dc11 pm11 an11 cd11 ct11), sl11⟩)
    (c11 : PySem.W.codeIn K cd11 "is_integer" = true)
    (k11 : PySem.W.keepIn K (.ref f11) = true)
    (a12 : PySem.W.nsIn K mainGlobals "is_arrow" = some (some (.ref f12)))
    (l12 : K.lookup f12 = some ⟨oc12, od12, .func (PySem.W.fnOf "is_arrow" "is_arrow" (defArgs CH.sArrow) (defBody CH.sArrow) (defScope CH.sArrow) .none kV12 dc12 pm12 an12 cd12 ct12), sl12⟩)
    (c12 : PySem.W.codeIn K cd12 "is_arrow" = true)
    (k12 : PySem.W.keepIn K (.ref f12) = true)
    (a13 : PySem.W.nsIn K mainGlobals "steps_by_source" = some (some (.ref f13)))
    (l13 : K.lookup f13 = some ⟨oc13, od13, .func (PySem.W.fnOf "steps_by_source" "steps_by_source" (defArgs CH.sSteps) (defBody CH.sSteps) (defScope CH.sSteps) .none kV13 dc13 pm13 an13 cd13 ct13), sl13⟩)
    (c13 : PySem.W.codeIn K cd13 "steps_by_source" = true)
    (k13 : PySem.W.keepIn K (.ref f13) = true)
    (a14 : PySem.W.nsIn K mainGlobals "reached_from" = some (some (.ref f14)))
    (l14 : K.lookup f14 = some ⟨oc14, od14, .func (PySem.W.fnOf "reached_from" "reached_from" (defArgs CH.sReached) (defBody CH.sReached) (defScope CH.sReached) .none kV14 dc14 pm14 an14 cd14 ct14), sl14⟩)
    (c14 : PySem.W.codeIn K cd14 "reached_from" = true)
    (k14 : PySem.W.keepIn K (.ref f14) = true)
    (a15 : PySem.W.nsIn K mainGlobals "least_lacking" = some (some (.ref f15)))
    (l15 : K.lookup f15 = some ⟨oc15, od15, .func (PySem.W.fnOf "least_lacking" "least_lacking" (defArgs CH.sLeast) (defBody CH.sLeast) (defScope CH.sLeast) .none kV15 dc15 pm15 an15 cd15 ct15), sl15⟩)
    (c15 : PySem.W.codeIn K cd15 "least_lacking" = true)
    (k15 : PySem.W.keepIn K (.ref f15) = true)
    (a16 : PySem.W.nsIn K mainGlobals "check_parts" = some (some (.ref f16)))
    (l16 : K.lookup f16 = some ⟨oc16, od16, .func (PySem.W.fnOf "check_parts" "check_parts" (defArgs CH.sCheck) (defBody CH.sCheck) (defScope CH.sCheck) .none kV16 dc16 pm16 an16 cd16 ct16), sl16⟩)
    (c16 : PySem.W.codeIn K cd16 "check_parts" = true)
    (k16 : PySem.W.keepIn K (.ref f16) = true)
    (a17 : PySem.W.findIn K (.ref CChart) "__init__" = some (some (.ref f17)))
    (i17 : PySem.W.isFn K (.ref f17) = true)
    (l17 : K.lookup f17 = some ⟨oc17, od17, .func (PySem.W.fnOf "__init__" "Chart.__init__" (defArgs CH.sInit) (defBody CH.sInit) (defScope CH.sInit) .none kV17 dc17 pm17 an17 cd17 ct17), sl17⟩)
    (c17 : PySem.W.codeIn K cd17 "Chart.__init__" = true)
    (k17 : PySem.W.keepIn K (.ref f17) = true)
    (a18 : PySem.W.findIn K (.ref CChart) "__contains__" = some (some (.ref f18)))
    (i18 : PySem.W.isFn K (.ref f18) = true)
    (l18 : K.lookup f18 = some ⟨oc18, od18, .func (PySem.W.fnOf "__contains__" "Chart.__contains__" (defArgs CH.sContains) (defBody CH.sContains) (defScope CH.sContains) .none kV18 dc18 pm18 an18 cd18 ct18), sl18⟩)
    (c18 : PySem.W.codeIn K cd18 "Chart.__contains__" = true)
    (k18 : PySem.W.keepIn K (.ref f18) = true)
    (a19 : PySem.W.nsIn K mainGlobals "removal_holds" = some (some (.ref f19)))
    (l19 : K.lookup f19 = some ⟨oc19, od19, .func (PySem.W.fnOf "removal_holds" "removal_holds" (defArgs sHolds) (defBody sHolds) (defScope sHolds) .none kV19 dc19 pm19 an19 cd19 ct19), sl19⟩)
    (c19 : PySem.W.codeIn K cd19 "removal_holds" = true)
    (k19 : PySem.W.keepIn K (.ref f19) = true)
    (a20 : PySem.W.nsIn K mainGlobals "_law_deck" = some (some (.ref f20)))
    (l20 : K.lookup f20 = some ⟨oc20, od20, .func (PySem.W.fnOf "_law_deck" "_law_deck" (defArgs sDeck) (defBody sDeck) (defScope sDeck) .none kV20 dc20 pm20 an20 cd20 ct20), sl20⟩)
    (c20 : PySem.W.codeIn K cd20 "_law_deck" = true)
    (k20 : PySem.W.keepIn K (.ref f20) = true)
    (a21 : PySem.W.nsIn K mainGlobals "_law_draw" = some (some (.ref f21)))
    (l21 : K.lookup f21 = some ⟨oc21, od21, .func (PySem.W.fnOf "_law_draw" "_law_draw" (defArgs sDraw) (defBody sDraw) (defScope sDraw) .none kV21 dc21 pm21 an21 cd21 ct21), sl21⟩)
    (c21 : PySem.W.codeIn K cd21 "_law_draw" = true)
    (k21 : PySem.W.keepIn K (.ref f21) = true)
    (a22 : PySem.W.nsIn K mainGlobals "_law_pick" = some (some (.ref f22)))
    (l22 : K.lookup f22 = some ⟨oc22, od22, .func (PySem.W.fnOf "_law_pick" "_law_pick" (defArgs sPick) (defBody sPick) (defScope sPick) .none kV22 dc22 pm22 an22 cd22 ct22), sl22⟩)
    (c22 : PySem.W.codeIn K cd22 "_law_pick" = true)
    (k22 : PySem.W.keepIn K (.ref f22) = true)
    (a23 : PySem.W.nsIn K mainGlobals "_law_sign" = some (some (.ref f23)))
    (l23 : K.lookup f23 = some ⟨oc23, od23, .func (PySem.W.fnOf "_law_sign" "_law_sign" (defArgs sSign) (defBody sSign) (defScope sSign) .none kV23 dc23 pm23 an23 cd23 ct23), sl23⟩)
    (c23 : PySem.W.codeIn K cd23 "_law_sign" = true)
    (k23 : PySem.W.keepIn K (.ref f23) = true)
    (a24 : PySem.W.nsIn K mainGlobals "_law_grown" = some (some (.ref f24)))
    (l24 : K.lookup f24 = some ⟨oc24, od24, .func (PySem.W.fnOf "_law_grown" "_law_grown" (defArgs sGrown) (defBody sGrown) (defScope sGrown) .none kV24 dc24 pm24 an24 cd24 ct24), sl24⟩)
    (c24 : PySem.W.codeIn K cd24 "_law_grown" = true)
    (k24 : PySem.W.keepIn K (.ref f24) = true)
    (a25 : PySem.W.nsIn K mainGlobals "_law_seen" = some (some (.ref f25)))
    (l25 : K.lookup f25 = some ⟨oc25, od25, .func (PySem.W.fnOf "_law_seen" "_law_seen" (defArgs sSeen) (defBody sSeen) (defScope sSeen) .none kV25 dc25 pm25 an25 cd25 ct25), sl25⟩)
    (c25 : PySem.W.codeIn K cd25 "_law_seen" = true)
    (k25 : PySem.W.keepIn K (.ref f25) = true)
    (a26 : PySem.W.nsIn K mainGlobals "_law_turns" = some (some (.ref f26)))
    (l26 : K.lookup f26 = some ⟨oc26, od26, .func (PySem.W.fnOf "_law_turns" "_law_turns" (defArgs sTurns) (defBody sTurns) (defScope sTurns) .none kV26 dc26 pm26 an26 cd26 ct26), sl26⟩)
    (c26 : PySem.W.codeIn K cd26 "_law_turns" = true)
    (k26 : PySem.W.keepIn K (.ref f26) = true)
    (a27 : PySem.W.nsIn K mainGlobals "_law_is_loop" = some (some (.ref f27)))
    (l27 : K.lookup f27 = some ⟨oc27, od27, .func (PySem.W.fnOf "_law_is_loop" "_law_is_loop" (defArgs sIsLoop) (defBody sIsLoop) (defScope sIsLoop) .none kV27 dc27 pm27 an27 cd27 ct27), sl27⟩)
    (c27 : PySem.W.codeIn K cd27 "_law_is_loop" = true)
    (k27 : PySem.W.keepIn K (.ref f27) = true)
    (a28 : PySem.W.nsIn K mainGlobals "_law_after" = some (some (.ref f28)))
    (l28 : K.lookup f28 = some ⟨oc28, od28, .func (PySem.W.fnOf "_law_after" "_law_after" (defArgs sAfter) (defBody sAfter) (defScope sAfter) .none kV28 dc28 pm28 an28 cd28 ct28), sl28⟩)
    (c28 : PySem.W.codeIn K cd28 "_law_after" = true)
    (k28 : PySem.W.keepIn K (.ref f28) = true)
    (a29 : PySem.W.nsIn K mainGlobals "_law_in_turn" = some (some (.ref f29)))
    (l29 : K.lookup f29 = some ⟨oc29, od29, .func (PySem.W.fnOf "_law_in_turn" "_law_in_turn" (defArgs sInTurn) (defBody sInTurn) (defScope sInTurn) .none kV29 dc29 pm29 an29 cd29 ct29), sl29⟩)
    (c29 : PySem.W.codeIn K cd29 "_law_in_turn" = true)
    (k29 : PySem.W.keepIn K (.ref f29) = true)
    (a30 : PySem.W.nsIn K mainGlobals "_law_is_row" = some (some (.ref f30)))
    (l30 : K.lookup f30 = some ⟨oc30, od30, .func (PySem.W.fnOf "_law_is_row" "_law_is_row" (defArgs sIsRow) (defBody sIsRow) (defScope sIsRow) .none kV30 dc30 pm30 an30 cd30 ct30), sl30⟩)
    (c30 : PySem.W.codeIn K cd30 "_law_is_row" = true)
    (k30 : PySem.W.keepIn K (.ref f30) = true)
    (a31 : PySem.W.nsIn K mainGlobals "_law_is_removal" = some (some (.ref f31)))
    (l31 : K.lookup f31 = some ⟨oc31, od31, .func (PySem.W.fnOf "_law_is_removal" "_law_is_removal" (defArgs sIsRemoval) (defBody sIsRemoval) (defScope sIsRemoval) .none kV31 dc31 pm31 an31 cd31 ct31), sl31⟩)
    (c31 : PySem.W.codeIn K cd31 "_law_is_removal" = true)
    (k31 : PySem.W.keepIn K (.ref f31) = true)
    (a32 : PySem.W.nsIn K mainGlobals "_law_row_bent" = some (some (.ref f32)))
    (l32 : K.lookup f32 = some ⟨oc32, od32, .func (PySem.W.fnOf "_law_row_bent" "_law_row_bent" (defArgs sRowBent) (defBody sRowBent) (defScope sRowBent) .none kV32 dc32 pm32 an32 cd32 ct32), sl32⟩)
    (c32 : PySem.W.codeIn K cd32 "_law_row_bent" = true)
    (k32 : PySem.W.keepIn K (.ref f32) = true)
    (a33 : PySem.W.nsIn K mainGlobals "_law_bent" = some (some (.ref f33)))
    (l33 : K.lookup f33 = some ⟨oc33, od33, .func (PySem.W.fnOf "_law_bent" "_law_bent" (defArgs sBent) (defBody sBent) (defScope sBent) .none kV33 dc33 pm33 an33 cd33 ct33), sl33⟩)
    (c33 : PySem.W.codeIn K cd33 "_law_bent" = true)
    (k33 : PySem.W.keepIn K (.ref f33) = true)
    (a34 : PySem.W.nsIn K mainGlobals "_law_holds_right" = some (some (.ref f34)))
    (l34 : K.lookup f34 = some ⟨oc34, od34, .func (PySem.W.fnOf "_law_holds_right" "_law_holds_right" (defArgs sHoldsRight) (defBody sHoldsRight) (defScope sHoldsRight) .none kV34 dc34 pm34 an34 cd34 ct34), sl34⟩)
    (c34 : PySem.W.codeIn K cd34 "_law_holds_right" = true)
    (k34 : PySem.W.keepIn K (.ref f34) = true)
    (a35 : PySem.W.nsIn K mainGlobals "law" = some (some (.ref f35)))
    (l35 : K.lookup f35 = some ⟨oc35, od35, .func (PySem.W.fnOf "law" "law" (defArgs sLaw) (defBody sLaw) (defScope sLaw) .none kV35 dc35 pm35 an35 cd35 ct35), sl35⟩)
    (c35 : PySem.W.codeIn K cd35 "law" = true)
    (k35 : PySem.W.keepIn K (.ref f35) = true)
    (pgCChart : PySem.W.plainGet K CChart Str.empty = true)
    (hdCChart : PySem.W.hasDictIn K CChart = true)
    (poCChart : PySem.W.plainOver K CChart = true)
    (saCChart : PySem.W.findIn K (.ref CChart) "__setattr__" = some (some (.builtin "object.__setattr__")))
    (mkCChart : PySem.W.makesIn K CChart = true)
    (kcCChart : PySem.W.keepIn K (.ref CChart) = true)
    (nCChartstates : PySem.W.findIn K (.ref CChart) "states" = some none)
    (nCChartarrows : PySem.W.findIn K (.ref CChart) "arrows" = some none)
    (nCChartopen_steps : PySem.W.findIn K (.ref CChart) "open_steps" = some none)
    (e1 : PySem.W.nsIn K mainGlobals "END_loops" = some (some (.int (-1) tk1)))
    (e2 : PySem.W.nsIn K mainGlobals "END_charts" = some (some (.int (-1) tk2)))
    (e3 : PySem.W.nsIn K mainGlobals "LONGEST_LABEL" = some (some (.int 8 tk3)))
    (e4 : PySem.W.nsIn K mainGlobals "PARTS" = some (some (.int 3 tk4)))
    (e5 : PySem.W.nsIn K mainGlobals "LETTERS" = some (some (.str CH.lets tk5)))
    (e6 : PySem.W.nsIn K mainGlobals "START" = some (some (.int 0 tk6)))
    (rRESERVED : PySem.W.nsIn K mainGlobals "RESERVED" = some (some (.ref aTRESERVED)))
    (tRESERVED : K.lookup aTRESERVED = some ⟨.type "tuple", odTRESERVED, .seq itTRESERVED nTRESERVED, slTRESERVED⟩)
    (vRESERVED : Vals (CH.resW.map V.str) itTRESERVED.toList)
    (zint : PySem.W.nsIn K mainGlobals "int" = some none)
    (zlen : PySem.W.nsIn K mainGlobals "len" = some none)
    (zlist : PySem.W.nsIn K mainGlobals "list" = some none)
    (ztuple : PySem.W.nsIn K mainGlobals "tuple" = some none)
    (zdict : PySem.W.nsIn K mainGlobals "dict" = some none)
    (zset : PySem.W.nsIn K mainGlobals "set" = some none)
    (zsorted : PySem.W.nsIn K mainGlobals "sorted" = some none)
    (zsum : PySem.W.nsIn K mainGlobals "sum" = some none)
    (zrepr : PySem.W.nsIn K mainGlobals "repr" = some none)
    (zrange : PySem.W.nsIn K mainGlobals "range" = some none)
    (zmax : PySem.W.nsIn K mainGlobals "max" = some none)
    (zmin : PySem.W.nsIn K mainGlobals "min" = some none)
    (zisinstance : PySem.W.nsIn K mainGlobals "isinstance" = some none)
    (zall : PySem.W.nsIn K mainGlobals "all" = some none)
    (zzip : PySem.W.nsIn K mainGlobals "zip" = some none)
    (zstr : PySem.W.nsIn K mainGlobals "str" = some none)
    (zbool : PySem.W.nsIn K mainGlobals "bool" = some none)
    : ∃ fd : FuncData, (∀ (s : Shared) (v : Value), BindsTo s fd ⟨[v], []⟩ [("_law_script", v)]) ∧ ∀ base : Heap, K.In base → base.Ns mainGlobals mg → FnG l.prog w K mg base CX0 7 fa fd ["_law_script"] (ML.spLaw0 K) := by
  have e := hfa.symm.trans (PySem.W.mg_of X G a35)
  cases e
  have F1 := fun_mk (st := sNexts) l1 c1 k1
  have F2 := fun_mk (st := sFrom) l2 c2 k2
  have F3 := fun_mk (st := sEndless) l3 c3 k3
  have F4 := fun_mk (st := sHas) l4 c4 k4
  have F5 := fun_mk (st := sLoop) l5 c5 k5
  have F6 := fun_mk (st := sFirst) l6 c6 k6
  have F7 := fun_mk (st := sLive) l7 c7 k7
  have F8 := fun_mk (st := sWithout) l8 c8 k8
  have F9 := fun_mk (st := sRemoval) l9 c9 k9
  have F10 := fun_mk (st := CH.sLabel) l10 c10 k10
  have F11 := fun_mk (st := CH.sInt) l11 c11 k11
  have F12 := fun_mk (st := CH.sArrow) l12 c12 k12
  have F13 := fun_mk (st := CH.sSteps) l13 c13 k13
  have F14 := fun_mk (st := CH.sReached) l14 c14 k14
  have F15 := fun_mk (st := CH.sLeast) l15 c15 k15
  have F16 := fun_mk (st := CH.sCheck) l16 c16 k16
  have F17 := fun_mk (st := CH.sInit) l17 c17 k17
  have F18 := fun_mk (st := CH.sContains) l18 c18 k18
  have F19 := fun_mk (st := sHolds) l19 c19 k19
  have F20 := fun_mk (st := sDeck) l20 c20 k20
  have F21 := fun_mk (st := sDraw) l21 c21 k21
  have F22 := fun_mk (st := sPick) l22 c22 k22
  have F23 := fun_mk (st := sSign) l23 c23 k23
  have F24 := fun_mk (st := sGrown) l24 c24 k24
  have F25 := fun_mk (st := sSeen) l25 c25 k25
  have F26 := fun_mk (st := sTurns) l26 c26 k26
  have F27 := fun_mk (st := sIsLoop) l27 c27 k27
  have F28 := fun_mk (st := sAfter) l28 c28 k28
  have F29 := fun_mk (st := sInTurn) l29 c29 k29
  have F30 := fun_mk (st := sIsRow) l30 c30 k30
  have F31 := fun_mk (st := sIsRemoval) l31 c31 k31
  have F32 := fun_mk (st := sRowBent) l32 c32 k32
  have F33 := fun_mk (st := sBent) l33 c33 k33
  have F34 := fun_mk (st := sHoldsRight) l34 c34 k34
  have F35 := fun_mk (st := sLaw) l35 c35 k35
  have b1 := F1.binds (ps := ["arrows"]) fun _ _ _ _ _ _ us hl => match us, hl with | [_], _ => rfl
  have b2 := F2.binds (ps := ["nexts", "first", "avoided"]) fun _ _ _ _ _ _ us hl => match us, hl with | [_, _, _], _ => rfl
  have b3 := F3.binds (ps := ["arrows"]) fun _ _ _ _ _ _ us hl => match us, hl with | [_], _ => rfl
  have b4 := F4.binds (ps := ["arrows"]) fun _ _ _ _ _ _ us hl => match us, hl with | [_], _ => rfl
  have b5 := F5.binds (ps := ["arrows", "nexts", "arrow"]) fun _ _ _ _ _ _ us hl => match us, hl with | [_, _, _], _ => rfl
  have b6 := F6.binds (ps := ["arrows"]) fun _ _ _ _ _ _ us hl => match us, hl with | [_], _ => rfl
  have b7 := F7.binds (ps := ["arrows"]) fun _ _ _ _ _ _ us hl => match us, hl with | [_], _ => rfl
  have b8 := F8.binds (ps := ["arrows", "gone"]) fun _ _ _ _ _ _ us hl => match us, hl with | [_, _], _ => rfl
  have b9 := F9.binds (ps := ["chart"]) fun _ _ _ _ _ _ us hl => match us, hl with | [_], _ => rfl
  have b10 := F10.binds (ps := ["thing"]) fun _ _ _ _ _ _ us hl => match us, hl with | [_], _ => rfl
  have b11 := F11.binds (ps := ["thing"]) fun _ _ _ _ _ _ us hl => match us, hl with | [_], _ => rfl
  have b12 := F12.binds (ps := ["states", "thing"]) fun _ _ _ _ _ _ us hl => match us, hl with | [_, _], _ => rfl
  have b13 := F13.binds (ps := ["arrows"]) fun _ _ _ _ _ _ us hl => match us, hl with | [_], _ => rfl
  have b14 := F14.binds (ps := ["state", "arrows"]) fun _ _ _ _ _ _ us hl => match us, hl with | [_, _], _ => rfl
  have b15 := F15.binds (ps := ["found"]) fun _ _ _ _ _ _ us hl => match us, hl with | [_], _ => rfl
  have b16 := F16.binds (ps := ["states", "arrows"]) fun _ _ _ _ _ _ us hl => match us, hl with | [_, _], _ => rfl
  have b17 := F17.binds (ps := ["self", "states", "arrows"]) fun _ _ _ _ _ _ us hl => match us, hl with | [_, _, _], _ => rfl
  have b18 := F18.binds (ps := ["self", "thing"]) fun _ _ _ _ _ _ us hl => match us, hl with | [_, _], _ => rfl
  have b19 := F19.binds (ps := ["chart", "thing"]) fun _ _ _ _ _ _ us hl => match us, hl with | [_, _], _ => rfl
  have b20 := F20.binds (ps := ["_law_script"]) fun _ _ _ _ _ _ us hl => match us, hl with | [_], _ => rfl
  have b21 := F21.binds (ps := ["_law_deck_here", "_law_many"]) fun _ _ _ _ _ _ us hl => match us, hl with | [_, _], _ => rfl
  have b22 := F22.binds (ps := ["_law_deck_here", "_law_some"]) fun _ _ _ _ _ _ us hl => match us, hl with | [_, _], _ => rfl
  have b23 := F23.binds (ps := ["_law_deck_here"]) fun _ _ _ _ _ _ us hl => match us, hl with | [_], _ => rfl
  have b24 := F24.binds (ps := ["_law_deck_here", "_law_top", "_law_turns_here"]) fun _ _ _ _ _ _ us hl => match us, hl with | [_, _, _], _ => rfl
  have b25 := F25.binds (ps := ["_law_some", "_law_first", "_law_shut"]) fun _ _ _ _ _ _ us hl => match us, hl with | [_, _, _], _ => rfl
  have b26 := F26.binds (ps := ["_law_some"]) fun _ _ _ _ _ _ us hl => match us, hl with | [_], _ => rfl
  have b27 := F27.binds (ps := ["_law_some", "_law_row"]) fun _ _ _ _ _ _ us hl => match us, hl with | [_, _], _ => rfl
  have b28 := F28.binds (ps := ["_law_some", "_law_gone"]) fun _ _ _ _ _ _ us hl => match us, hl with | [_, _], _ => rfl
  have b29 := F29.binds (ps := ["_law_deck_here", "_law_some"]) fun _ _ _ _ _ _ us hl => match us, hl with | [_, _], _ => rfl
  have b30 := F30.binds (ps := ["_law_some", "_law_it"]) fun _ _ _ _ _ _ us hl => match us, hl with | [_, _], _ => rfl
  have b31 := F31.binds (ps := ["_law_some", "_law_it"]) fun _ _ _ _ _ _ us hl => match us, hl with | [_, _], _ => rfl
  have b32 := F32.binds (ps := ["_law_deck_here", "_law_some", "_law_row"]) fun _ _ _ _ _ _ us hl => match us, hl with | [_, _, _], _ => rfl
  have b33 := F33.binds (ps := ["_law_deck_here", "_law_some", "_law_it"]) fun _ _ _ _ _ _ us hl => match us, hl with | [_, _, _], _ => rfl
  have b34 := F34.binds (ps := ["_law_plan", "_law_some", "_law_it"]) fun _ _ _ _ _ _ us hl => match us, hl with | [_, _, _], _ => rfl
  have T : Blt mg := ⟨PySem.W.mg_none_of X G zint, PySem.W.mg_none_of X G zlen, PySem.W.mg_none_of X G zlist, PySem.W.mg_none_of X G ztuple, PySem.W.mg_none_of X G zdict, PySem.W.mg_none_of X G zset, PySem.W.mg_none_of X G zsorted, PySem.W.mg_none_of X G zsum, PySem.W.mg_none_of X G zrepr, PySem.W.mg_none_of X G zrange, PySem.W.mg_none_of X G zmax, PySem.W.mg_none_of X G zmin⟩
  have T2 : CH.Blt2 mg := ⟨T, PySem.W.mg_none_of X G zisinstance, PySem.W.mg_none_of X G zall, PySem.W.mg_none_of X G zzip, PySem.W.mg_none_of X G zstr, PySem.W.mg_none_of X G zbool⟩
  have CC : CH.ChC K mg CChart := ⟨⟨pgCChart, hdCChart, poCChart, saCChart⟩, nCChartstates, nCChartarrows, nCChartopen_steps, PySem.W.mg_of X G gCChart⟩
  have gEND_loops : ∃ u, mg "END_loops" = some u ∧ RelV (.int (-1)) u := ⟨_, PySem.W.mg_of X G e1, ⟨_, rfl⟩⟩
  have gEND_charts : ∃ u, mg "END_charts" = some u ∧ RelV (.int (-1)) u := ⟨_, PySem.W.mg_of X G e2, ⟨_, rfl⟩⟩
  have gLONGEST_LABEL : ∃ u, mg "LONGEST_LABEL" = some u ∧ RelV (.int 8) u := ⟨_, PySem.W.mg_of X G e3, ⟨_, rfl⟩⟩
  have gPARTS : ∃ u, mg "PARTS" = some u ∧ RelV (.int 3) u := ⟨_, PySem.W.mg_of X G e4, ⟨_, rfl⟩⟩
  have gLETTERS : ∃ u, mg "LETTERS" = some u ∧ RelV (.str CH.lets) u := ⟨_, PySem.W.mg_of X G e5, ⟨_, rfl⟩⟩
  have gSTART : ∃ u, mg "START" = some u ∧ RelV (.int 0) u := ⟨_, PySem.W.mg_of X G e6, ⟨_, rfl⟩⟩
  have gRESERVED : ∃ a, mg "RESERVED" = some (.ref a) ∧ ∀ H : Hp, SqT K H a (CH.resW.map V.str) := ⟨_, PySem.W.mg_of X G rRESERVED, fun H => .inr ⟨_, _, _, tRESERVED, rfl, rfl, by rw [← Array.length_toList, ← vRESERVED.length, List.length_map]; decide, vRESERVED⟩⟩
  have CS : CH.Cst K mg := ⟨gEND_charts, gLONGEST_LABEL, gPARTS, gLETTERS, gRESERVED⟩
  refine ⟨PySem.W.fnOf "law" "law" (defArgs sLaw) (defBody sLaw) (defScope sLaw) .none kV35 dc35 pm35 an35 cd35 ct35, fun s v => .of_eq rfl, fun base _ _ => ?_⟩
  have h1 : Has l.prog w K mg base "nexts_of" 1 ["arrows"] (spNexts K) := ⟨_, _, ok_nexts F1, PySem.W.mg_of X G a1, k1, b1⟩
  have m1 : HasM l.prog w K mg base "nexts_of" 1 ["arrows"] (S_nexts_of K) := .of h1 nexts_conv
  have h2 : Has l.prog w K mg base "states_from" 1 ["nexts", "first", "avoided"] spFrom := ⟨_, _, ok_from F2 gEND_loops, PySem.W.mg_of X G a2, k2, b2⟩
  have m2 : HasM l.prog w K mg base "states_from" 1 ["nexts", "first", "avoided"] (S_states_from K) := .of h2 from_conv
  have h3 : Has l.prog w K mg base "endless_states" 1 ["arrows"] (spEnd K) := ⟨_, _, ok_endless F3 gEND_loops, PySem.W.mg_of X G a3, k3, b3⟩
  have h4 : Has l.prog w K mg base "has_cycle" 2 ["arrows"] (spHas K) := ⟨_, _, ok_has F4 h3, PySem.W.mg_of X G a4, k4, b4⟩
  have m4 : HasM l.prog w K mg base "has_cycle" 2 ["arrows"] (S_has_cycle K) := .of h4 has_conv
  have m5 : HasM l.prog w K mg base "is_loop_arrow" 3 ["arrows", "nexts", "arrow"] (S_is_loop_arrow K) := ⟨_, _, ok_loopP F5 gEND_loops m2 m4, PySem.W.mg_of X G a5, k5, b5⟩
  have m6 : HasM l.prog w K mg base "first_loop" 4 ["arrows"] (S_first_loop K) := ⟨_, _, ok_first F6 m1 m5, PySem.W.mg_of X G a6, k6, b6⟩
  have m7 : HasM l.prog w K mg base "live_arrows" 2 ["arrows"] (S_live_arrows K) := ⟨_, _, ok_live F7 gEND_loops gSTART m1 m2, PySem.W.mg_of X G a7, k7, b7⟩
  have m8 : HasM l.prog w K mg base "without_arrow" 3 ["arrows", "gone"] (S_without_arrow K) := ⟨_, _, ok_without F8 m7, PySem.W.mg_of X G a8, k8, b8⟩
  have m9 : HasM l.prog w K mg base "removal_of" 5 ["chart"] (spOf 0 (removalM K CChart)) := ⟨_, _, ok_removal F9 T CC m6 m8, PySem.W.mg_of X G a9, k9, b9⟩
  have m9k : HasM1 l.prog w K mg base "removal_of" 5 "chart" (spOf 0 (removalM K CChart)) := ⟨_, _, ok_removal F9 T CC m6 m8, PySem.W.mg_of X G a9, k9, fun s u => .of_eq rfl⟩
  have h10 : Has l.prog w K mg base "is_label" 1 ["thing"] CH.spLabel := ⟨_, _, CH.ok_label F10 T2 CS, PySem.W.mg_of X G a10, k10, b10⟩
  have m10 : HasM l.prog w K mg base "is_label" 1 ["thing"] (S_is_label K) := ⟨_, _, (FnG.or (FnG.of (CH.ok_label F10 T2 CS)) (FnG.of (CH.ok_labelN F10 T2 CS))).conv labelA_conv, PySem.W.mg_of X G a10, k10, b10⟩
  have h11 : Has l.prog w K mg base "is_integer" 1 ["thing"] CH.spInt := ⟨_, _, CH.ok_int F11 T2, PySem.W.mg_of X G a11, k11, b11⟩
  have m11 : HasM l.prog w K mg base "is_integer" 1 ["thing"] (S_is_integer K) := ⟨_, _, (FnG.or (FnG.of (CH.ok_int F11 T2)) (FnG.of (CH.ok_intN F11 T2))).conv intA_conv, PySem.W.mg_of X G a11, k11, b11⟩
  have h12 : Has l.prog w K mg base "is_arrow" 2 ["states", "thing"] (CH.spArrow K) := ⟨_, _, CH.ok_arrow F12 T2 CS h10 h11, PySem.W.mg_of X G a12, k12, b12⟩
  have m12 : HasM l.prog w K mg base "is_arrow" 2 ["states", "thing"] (S_is_arrow K) := ⟨_, _, ok_arrowA F12 T2 CS m10 m11, PySem.W.mg_of X G a12, k12, b12⟩
  have h13 : Has l.prog w K mg base "steps_by_source" 1 ["arrows"] (CH.spSteps K) := ⟨_, _, CH.ok_steps F13, PySem.W.mg_of X G a13, k13, b13⟩
  have h14 : Has l.prog w K mg base "reached_from" 2 ["state", "arrows"] (CH.spReached K) := ⟨_, _, CH.ok_reached F14 CS h13, PySem.W.mg_of X G a14, k14, b14⟩
  have h15 : Has l.prog w K mg base "least_lacking" 1 ["found"] CH.spLeast := ⟨_, _, CH.ok_least F15, PySem.W.mg_of X G a15, k15, b15⟩
  have h16 : Has l.prog w K mg base "check_parts" 3 ["states", "arrows"] (CH.spCheck K) := ⟨_, _, CH.ok_check F16 T2 h11 h12 h15 h14, PySem.W.mg_of X G a16, k16, b16⟩
  have h17 : FnOk l.prog w K mg base CX0 4 f17 _ ["self", "states", "arrows"] (CH.spInit K CChart) := CH.ok_init F17 T2 CC h16 h13
  have h18 : FnG l.prog w K mg base CX0 3 f18 _ ["self", "thing"] (spOf 0 (containsM K CChart)) := ok_contains F18 CC m12
  have m19 : HasM l.prog w K mg base "removal_holds" 5 ["chart", "thing"] (spOf 0 (holdsA K CChart)) := ⟨_, _, ok_holdsA F19 T2 CC a18 i18 h18 b18 m1 m5 m8, PySem.W.mg_of X G a19, k19, b19⟩
  have m19k : HasM2 l.prog w K mg base "removal_holds" 5 "chart" "thing" (spOf 0 (holdsA K CChart)) := ⟨_, _, ok_holdsA F19 T2 CC a18 i18 h18 b18 m1 m5 m8, PySem.W.mg_of X G a19, k19, fun s u v => .of_eq rfl⟩
  have h20 : Has l.prog w K mg base "_law_deck" 1 ["_law_script"] (spDeck K) := ⟨_, _, ok_deck F20 T, PySem.W.mg_of X G a20, k20, b20⟩
  have m20 : HasM l.prog w K mg base "_law_deck" 1 ["_law_script"] (S_law_deck K) := .of h20 deck_conv
  have h21 : Has l.prog w K mg base "_law_draw" 1 ["_law_deck_here", "_law_many"] spDraw := ⟨_, _, ok_draw F21 T, PySem.W.mg_of X G a21, k21, b21⟩
  have m21 : HasM l.prog w K mg base "_law_draw" 1 ["_law_deck_here", "_law_many"] (S_law_draw K) := .of h21 draw_conv
  have h22 : Has l.prog w K mg base "_law_pick" 2 ["_law_deck_here", "_law_some"] (spPick K) := ⟨_, _, ok_pick F22 T h21, PySem.W.mg_of X G a22, k22, b22⟩
  have m22 : HasM l.prog w K mg base "_law_pick" 2 ["_law_deck_here", "_law_some"] (S_law_pick K) := .of h22 pick_conv
  have m23 : HasM l.prog w K mg base "_law_sign" 3 ["_law_deck_here"] (S_law_sign K) := ⟨_, _, ok_sign2 F23 m22, PySem.W.mg_of X G a23, k23, b23⟩
  have m24 : HasM l.prog w K mg base "_law_grown" 4 ["_law_deck_here", "_law_top", "_law_turns_here"] (S_law_grown K) := ⟨_, _, ok_grown2 12 17 (by decide) (by decide) (by decide) (by decide) F24 T m21 m22 m23, PySem.W.mg_of X G a24, k24, b24⟩
  have m25 : HasM l.prog w K mg base "_law_seen" 1 ["_law_some", "_law_first", "_law_shut"] (S_law_seen K) := ⟨_, _, ok_seen F25 T, PySem.W.mg_of X G a25, k25, b25⟩
  have m26 : HasM l.prog w K mg base "_law_turns" 1 ["_law_some"] (S_law_turns K) := ⟨_, _, ok_turns F26 T, PySem.W.mg_of X G a26, k26, b26⟩
  have m27 : HasM l.prog w K mg base "_law_is_loop" 2 ["_law_some", "_law_row"] (S_law_is_loop K) := ⟨_, _, ok_isloopL F27 T m25 m26, PySem.W.mg_of X G a27, k27, b27⟩
  have m28 : HasM l.prog w K mg base "_law_after" 2 ["_law_some", "_law_gone"] (S_law_after K) := ⟨_, _, ok_after F28 T m25, PySem.W.mg_of X G a28, k28, b28⟩
  have m29 : HasM l.prog w K mg base "_law_in_turn" 3 ["_law_deck_here", "_law_some"] (S_law_in_turn K) := ⟨_, _, ok_in_turn F29 T m22 m27 m28, PySem.W.mg_of X G a29, k29, b29⟩
  have m30 : HasM l.prog w K mg base "_law_is_row" 1 ["_law_some", "_law_it"] (S_law_is_row K) := ⟨_, _, ok_isRow F30 T2, PySem.W.mg_of X G a30, k30, b30⟩
  have m31 : HasM l.prog w K mg base "_law_is_removal" 3 ["_law_some", "_law_it"] (S_law_is_removal K) := ⟨_, _, ok_isRemoval F31 T2 m30 m27 m28, PySem.W.mg_of X G a31, k31, b31⟩
  have m32 : HasM l.prog w K mg base "_law_row_bent" 3 ["_law_deck_here", "_law_some", "_law_row"] (S_law_row_bent K) := ⟨_, _, ok_rowBent F32 T2 m21 m22, PySem.W.mg_of X G a32, k32, b32⟩
  have m33 : HasM l.prog w K mg base "_law_bent" 4 ["_law_deck_here", "_law_some", "_law_it"] (S_law_bent K) := ⟨_, _, ok_bent F33 T2 m21 m22 m32, PySem.W.mg_of X G a33, k33, b33⟩
  have m34 : HasM l.prog w K mg base "_law_holds_right" 6 ["_law_plan", "_law_some", "_law_it"] (spOf 0 (holdsRM K CChart)) := ⟨_, _, ok_holdsRight F34 T2 m31 m19 m19k, PySem.W.mg_of X G a34, k34, b34⟩
  exact (ok_law2 F35 T2 CC ⟨mkCChart, a17, i17, kcCChart⟩ h17 b17 m20 m21 m24 m29 m27 m31 m9 m9k m19 m33 m34).conv law_conv
end K24
open PySem PySem.W PyProof.Rows
set_option maxHeartbeats 0 in
theorem PySem.Challenge.cw_loopsaid_k21_removal_sequences_holds : PySem.Challenge.rw_loopsaid_k21_removal_sequences.Holds := by
  w_on; o_law; k_head; (case hw => w_witness2)
  k_fill
  refine GL.walk_ofG (l := PySem.Challenge.rw_loopsaid_k21_removal_sequences) (n := 63) (k := 7) (x := "_law_script") (CX := fun _ => L2.CX0) (sp := fun w => ML.spLaw0 _) rfl (by decide) rfl ⟨rfl, by decide, by decide⟩ (fun w h Y => PySem.W.kIn_of Y) ?F (fun _ _ a ns hl _ hS => ⟨a, ns, rfl, hS, hl, fun _ => rfl⟩) (fun _ _ _ _ _ h => h)
  case F =>
    intro w mg fa h KX G hmg
    refine' K24.all_mk KX G hmg ?gCChart ?a1 ?l1 ?c1 ?k1 ?a2 ?l2 ?c2 ?k2 ?a3 ?l3 ?c3 ?k3 ?a4 ?l4 ?c4 ?k4 ?a5 ?l5 ?c5 ?k5 ?a6 ?l6 ?c6 ?k6 ?a7 ?l7 ?c7 ?k7 ?a8 ?l8 ?c8 ?k8 ?a9 ?l9 ?c9 ?k9 ?a10 ?l10 ?c10 ?k10 ?a11 ?l11 ?c11 ?k11 ?a12 ?l12 ?c12 ?k12 ?a13 ?l13 ?c13 ?k13 ?a14 ?l14 ?c14 ?k14 ?a15 ?l15 ?c15 ?k15 ?a16 ?l16 ?c16 ?k16 ?a17 ?i17 ?l17 ?c17 ?k17 ?a18 ?i18 ?l18 ?c18 ?k18 ?a19 ?l19 ?c19 ?k19 ?a20 ?l20 ?c20 ?k20 ?a21 ?l21 ?c21 ?k21 ?a22 ?l22 ?c22 ?k22 ?a23 ?l23 ?c23 ?k23 ?a24 ?l24 ?c24 ?k24 ?a25 ?l25 ?c25 ?k25 ?a26 ?l26 ?c26 ?k26 ?a27 ?l27 ?c27 ?k27 ?a28 ?l28 ?c28 ?k28 ?a29 ?l29 ?c29 ?k29 ?a30 ?l30 ?c30 ?k30 ?a31 ?l31 ?c31 ?k31 ?a32 ?l32 ?c32 ?k32 ?a33 ?l33 ?c33 ?k33 ?a34 ?l34 ?c34 ?k34 ?a35 ?l35 ?c35 ?k35 ?pgCChart ?hdCChart ?poCChart ?saCChart ?mkCChart ?kcCChart ?nCChartstates ?nCChartarrows ?nCChartopen_steps ?e1 ?e2 ?e3 ?e4 ?e5 ?e6 ?rRESERVED ?tRESERVED ?vRESERVED ?zint ?zlen ?zlist ?ztuple ?zdict ?zset ?zsorted ?zsum ?zrepr ?zrange ?zmax ?zmin ?zisinstance ?zall ?zzip ?zstr ?zbool
    (case gCChart => k_is); (case a1 => k_is); (case l1 => k_is); (case c1 => k_is); (case k1 => k_is); (case a2 => k_is); (case l2 => k_is); (case c2 => k_is); (case k2 => k_is); (case a3 => k_is); (case l3 => k_is); (case c3 => k_is); (case k3 => k_is); (case a4 => k_is); (case l4 => k_is); (case c4 => k_is); (case k4 => k_is); (case a5 => k_is); (case l5 => k_is); (case c5 => k_is); (case k5 => k_is); (case a6 => k_is); (case l6 => k_is); (case c6 => k_is); (case k6 => k_is); (case a7 => k_is); (case l7 => k_is); (case c7 => k_is); (case k7 => k_is); (case a8 => k_is); (case l8 => k_is); (case c8 => k_is); (case k8 => k_is); (case a9 => k_is); (case l9 => k_is); (case c9 => k_is); (case k9 => k_is); (case a10 => k_is); (case l10 => k_is); (case c10 => k_is); (case k10 => k_is); (case a11 => k_is); (case l11 => k_is); (case c11 => k_is); (case k11 => k_is); (case a12 => k_is); (case l12 => k_is); (case c12 => k_is); (case k12 => k_is); (case a13 => k_is); (case l13 => k_is); (case c13 => k_is); (case k13 => k_is); (case a14 => k_is); (case l14 => k_is); (case c14 => k_is); (case k14 => k_is); (case a15 => k_is); (case l15 => k_is); (case c15 => k_is); (case k15 => k_is); (case a16 => k_is); (case l16 => k_is); (case c16 => k_is); (case k16 => k_is); (case a17 => k_is); (case i17 => k_is); (case l17 => k_is); (case c17 => k_is); (case k17 => k_is); (case a18 => k_is); (case i18 => k_is); (case l18 => k_is); (case c18 => k_is); (case k18 => k_is); (case a19 => k_is); (case l19 => k_is); (case c19 => k_is); (case k19 => k_is); (case a20 => k_is); (case l20 => k_is); (case c20 => k_is); (case k20 => k_is); (case a21 => k_is); (case l21 => k_is); (case c21 => k_is); (case k21 => k_is); (case a22 => k_is); (case l22 => k_is); (case c22 => k_is); (case k22 => k_is); (case a23 => k_is); (case l23 => k_is); (case c23 => k_is); (case k23 => k_is); (case a24 => k_is); (case l24 => k_is); (case c24 => k_is); (case k24 => k_is); (case a25 => k_is); (case l25 => k_is); (case c25 => k_is); (case k25 => k_is); (case a26 => k_is); (case l26 => k_is); (case c26 => k_is); (case k26 => k_is); (case a27 => k_is); (case l27 => k_is); (case c27 => k_is); (case k27 => k_is); (case a28 => k_is); (case l28 => k_is); (case c28 => k_is); (case k28 => k_is); (case a29 => k_is); (case l29 => k_is); (case c29 => k_is); (case k29 => k_is); (case a30 => k_is); (case l30 => k_is); (case c30 => k_is); (case k30 => k_is); (case a31 => k_is); (case l31 => k_is); (case c31 => k_is); (case k31 => k_is); (case a32 => k_is); (case l32 => k_is); (case c32 => k_is); (case k32 => k_is); (case a33 => k_is); (case l33 => k_is); (case c33 => k_is); (case k33 => k_is); (case a34 => k_is); (case l34 => k_is); (case c34 => k_is); (case k34 => k_is); (case a35 => k_is); (case l35 => k_is); (case c35 => k_is); (case k35 => k_is); (case pgCChart => k_is); (case hdCChart => k_is); (case poCChart => k_is); (case saCChart => k_is); (case mkCChart => k_is); (case kcCChart => k_is); (case nCChartstates => k_is); (case nCChartarrows => k_is); (case nCChartopen_steps => k_is); (case e1 => k_is); (case e2 => k_is); (case e3 => k_is); (case e4 => k_is); (case e5 => k_is); (case e6 => k_is); (case rRESERVED => k_is); (case tRESERVED => k_is); (case vRESERVED => exact .cons ⟨_, rfl⟩ (.cons ⟨_, rfl⟩ (.cons ⟨_, rfl⟩ (.cons ⟨_, rfl⟩ (.cons ⟨_, rfl⟩ (.cons ⟨_, rfl⟩ (.cons ⟨_, rfl⟩ (.nil)))))))); (case zint => k_is); (case zlen => k_is); (case zlist => k_is); (case ztuple => k_is); (case zdict => k_is); (case zset => k_is); (case zsorted => k_is); (case zsum => k_is); (case zrepr => k_is); (case zrange => k_is); (case zmax => k_is); (case zmin => k_is); (case zisinstance => k_is); (case zall => k_is); (case zzip => k_is); (case zstr => k_is); (case zbool => k_is)
