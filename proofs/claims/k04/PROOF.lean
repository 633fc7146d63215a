import PyProof.Rows.All
import Wide.All
import OpenK.AllK
import Wide.FinOn
import HandS.ForMost
import HandS.TupSets
import KE.SortData
import HandS.SetFor
import HandS.Strs
import HandS.Style
import HandS.SetKeys
import HandS.DictComp
import HandS.DictEq
import HandS.Conv
import HandS.More
import HandS.Wide
import HandS.SortInts
import HandS.Walk
import HandS.IsInst
import HandS.TupAny
import HandS.Zip
import HandS.Text
import KE.LtData
import KE.DataCmp
import PySem.Challenge.RW_loopsaid_k04_texts_of_charts
import HandS.Codes
import PyProof.ReprLen
import HandS.Deep
import HandS.NoneIn
import HandS.List
import KE.KRevSl
import PyProof.CallFns
import HandS.Star
import PyProof.P3In
import HandS.FStr
import KE.KCallOwn
import HandS.ClsMeth
import PyProof.StrBlock2
import PyProof.Rows.StrMul
import HandS.Ends
set_option Elab.async false
set_option linter.all false
set_option maxRecDepth 100000
set_option maxHeartbeats 4000000
/-! Sets of heap keys (flat tuples of ints and texts), up to 76 members: own port for any kind of key. -/
namespace KS
open PySem PySem.Spec PyProof.Rows L2

/-- what a set asks of its members -/
structure SKind (P : Program) (w : World) (K : Type) [DecidableEq K] where
  is : Heap → K → Addr → Prop
  hash : K → Int
  draws : K → Nat
  inj : ∀ {h : Heap} {a : Addr} {x y : K}, is h x a → is h y a → x = y
  tup : ∀ {h : Heap} {a : Addr} {x : K}, is h x a → ∃ o its n, h.get? a = some o ∧ o.data = .seq its n
  keep : ∀ {h h' : Heap} {a : Addr} {x : K}, is h x a → (∀ b o its n, h.get? b = some o → o.data = .seq its n → h'.get? b = some o) → is h' x a
  hashed : ∀ {A : Around} {E : Value → Shared → Prop} {s : Shared} {k : K} {a : Addr} {Q : Int → Shared → Prop}, A.units < cLine → is s.heap k a →
    Q (hash k) { s with toks := s.toks + draws k } → wpAny (model P w) A (pyHash (.ref a)) Q E s
  eqs : ∀ {A : Around} {E : Value → Shared → Prop} {s : Shared} {x y : K} {a b : Addr} {Q : Bool → Shared → Prop}, A.units < cLine → is s.heap x a → is s.heap y b →
    Q (decide (x = y)) s → wpAny (model P w) A (eqBool (.ref a) (.ref b)) Q E s
  quiet : ∀ {A : Around} {E : Value → Shared → Prop} {s : Shared} {k : K} {a : Addr} {Q : Bool → Shared → Prop}, is s.heap k a → Q true s → wpAny (model P w) A (eqIsQuiet 8 (.ref a)) Q E s
  noStmt : ∀ {A : Around} {E : Value → Shared → Prop} {s : Shared} {k : K} {a : Addr} {Q : Bool → Shared → Prop}, is s.heap k a → Q false s → wpAny (model P w) A (ofAClassStatement 8 (.ref a)) Q E s
  byVal : ∀ {A : Around} {E : Value → Shared → Prop} {s : Shared} {k : K} {a : Addr} {Q : Bool → Shared → Prop}, is s.heap k a → (∀ b, Q b s) → wpAny (model P w) A (hashByValue 8 (.ref a)) Q E s

section kinds
variable {P : Program} {w : World} {A : Around} {E : Value → Shared → Prop} {s : Shared}
theorem flat_vals {k : List Key} {vs : List Value} (h : ItemsAre (mixKind P w) k vs) : ∀ v ∈ vs, (∃ i t, v = Value.int i t) ∨ ∃ x t, v = Value.str x t := by
  induction h with
  | nil => intro v hv; cases hv
  | @cons k0 v0 ks vs0 h1 _ ih =>
    intro v hv
    rcases List.mem_cons.mp hv with rfl | hv
    · rcases keyIs_shape (show keyIs k0 v = true from h1) with ⟨i, t, _, e⟩ | ⟨x, t, _, e⟩
      · exact .inl ⟨i, t, e⟩
      · exact .inr ⟨x, t, e⟩
    · exact ih v hv
theorem stmt_flat (n : Nat) {v : Value} (h : (∃ i t, v = Value.int i t) ∨ ∃ x t, v = Value.str x t) : ofAClassStatement n v = pure false := by
  rcases h with ⟨i, t, rfl⟩ | ⟨x, t, rfl⟩ <;> cases n <;> rfl
theorem hash_flat (n : Nat) {v : Value} (h : (∃ i t, v = Value.int i t) ∨ ∃ x t, v = Value.str x t) : ∃ b, hashByValue n v = pure b := by
  rcases h with ⟨i, t, rfl⟩ | ⟨x, t, rfl⟩ <;> cases n <;> first | exact ⟨true, rfl⟩ | exact ⟨false, rfl⟩
/-- a loop over flat items that answers nothing -/
theorem loop_flat {β : Type} {items : Array Value} {b0 : β} {f : Value → β → Sem (ForInStep β)} {R : β → Shared → Prop} (good : β → Prop) (g0 : good b0)
    (hall : ∀ v ∈ items.toList, (∃ i t, v = Value.int i t) ∨ ∃ x t, v = Value.str x t)
    (step : ∀ v b (s' : Shared), ((∃ i t, v = Value.int i t) ∨ ∃ x t, v = Value.str x t) → good b → s' = s → wpAny (model P w) A (f v b) (fun r s2 => s2 = s ∧ ∃ c, r = .yield c ∧ good c) E s')
    (fin : ∀ b, good b → R b s) : wpAny (model P w) A (forIn items b0 f) R E s := by
  rw [← Array.forIn_toList]
  refine wpAny_forIn_list _ (fun rest r s' => good r ∧ s' = s ∧ ∀ v ∈ rest, (∃ i t, v = Value.int i t) ∨ ∃ x t, v = Value.str x t) _ ?_ ?_ _ _ ⟨g0, rfl, hall⟩
  · rintro v rest r s' ⟨hg, e, hr⟩
    refine wpAny_mono (step v r s' (hr v List.mem_cons_self) hg e) (fun q s2 hq => ?_) (fun _ _ z => z)
    obtain ⟨e2, c, rfl, gc⟩ := hq
    exact ⟨gc, e2, fun u hu => hr u (List.mem_cons_of_mem _ hu)⟩
  · rintro r s' ⟨hg, rfl, _⟩
    exact fin r hg
theorem no_stmt {k : List Key} {b : Addr} {Q : Bool → Shared → Prop} (hk : IsTupleKey (mixKind P w) s.heap k b) (h : Q false s) : wpAny (model P w) A (ofAClassStatement 8 (.ref b)) Q E s := by
  have hT := hk.typeIs
  obtain ⟨o, items, n, ho, _, hd, hi⟩ := hk
  unfold ofAClassStatement
  refine wpAny_bind (wpAny_typeOf hT ?_)
  dsimp only
  simp only [show (("tuple" : String) == "tuple") = true by decide, if_true, Bool.not_true, Bool.false_eq_true, if_false]
  try refine wpAny_bind (wpAny_pure ?_)
  try simp only [Bool.not_true, Bool.false_eq_true, if_false]
  refine wpAny_bind (wpAny_seqItems ho hd ?_)
  dsimp only
  refine wpAny_bind (loop_flat (fun r => r.1 = none) rfl (flat_vals hi) (fun v r s' hv hr e => ?_) (fun r hr => ?_))
  · subst e
    rw [stmt_flat _ hv]
    refine wpAny_bind (wpAny_pure ?_)
    simp only [Bool.false_eq_true, if_false]
    exact wpAny_pure ⟨rfl, _, rfl, rfl⟩
  · obtain ⟨r1, r2⟩ := r
    simp only at hr
    subst hr
    exact wpAny_pure h
theorem by_val {k : List Key} {b : Addr} {Q : Bool → Shared → Prop} (hk : IsTupleKey (mixKind P w) s.heap k b) (h : ∀ b, Q b s) : wpAny (model P w) A (hashByValue 8 (.ref b)) Q E s := by
  have hT := hk.typeIs
  obtain ⟨o, items, n, ho, _, hd, hi⟩ := hk
  unfold hashByValue
  refine wpAny_bind (wpAny_specialOf hT F.slot_tuple_hash.lookup ?_)
  show wpAny _ _ (seqItems? (.ref b) >>= _) _ _ s
  refine wpAny_bind (wpAny_seqItems ho hd ?_)
  refine wpAny_bind ?_
  show wpAny _ _ (forIn items _ _) _ _ s
  rw [← Array.forIn_toList]
  refine wpAny_forIn_list _ (fun rest r s' => r.1 = none ∧ s' = s ∧ ∀ v ∈ rest, (∃ i t, v = Value.int i t) ∨ ∃ x t, v = Value.str x t) _ ?_ ?_ _ _ ⟨rfl, rfl, flat_vals hi⟩
  · rintro v rest r s' ⟨hr, rfl, hall⟩
    obtain ⟨q, e⟩ := hash_flat 7 (hall v List.mem_cons_self)
    rw [e]
    refine wpAny_bind (wpAny_pure ?_)
    cases q
    · simp only [Bool.not_false, if_true]
      exact wpAny_pure (wpAny_pure (h false))
    · simp only [Bool.not_true, Bool.false_eq_true, if_false]
      exact wpAny_pure ⟨rfl, rfl, fun u hu' => hall u (List.mem_cons_of_mem _ hu')⟩
  · rintro ⟨r1, r2⟩ s' ⟨hr, rfl, _⟩
    simp only at hr
    subst hr
    exact wpAny_pure (h true)
end kinds

/-- flat tuples of ints and texts -/
def mix (P : Program) (w : World) : SKind P w (List Key) where
  is := IsTupleKey (mixKind P w)
  hash := tupleKeyHash (mixKind P w)
  draws := fun ks => ks.length + 1
  inj := fun hx hy => hx.inj hy
  tup := fun ⟨o, its, n, ho, _, hd, _⟩ => ⟨o, its, n, ho, hd⟩
  keep := fun ⟨o, its, n, ho, hc, hd, hi⟩ k => ⟨o, its, n, k _ _ _ _ ho hd, hc, hd, hi⟩
  hashed := fun hu hk h => wpAny_pyHash_tuple hu hk h
  eqs := fun hu hx hy h => wpAny_eqBool_tuple hu hx hy h
  quiet := fun hk h => wpAny_eqIsQuiet_tuple hk h
  noStmt := fun hk h => no_stmt hk h
  byVal := fun hk h => by_val hk h
end KS

namespace KS
open PySem PySem.Spec PyProof.Rows L2
section
variable {P : Program} {w : World} {A : Around} {E : Value → Shared → Prop} {s : Shared} {K : Type} [DecidableEq K] {κ : SKind P w K}

/-- a search among members shows nothing -/
theorem unseen {k : K} {b : Addr} {Q : Bool → Shared → Prop} (hk : κ.is s.heap k b) {ys : List Value} (hy : ∀ y ∈ ys, ∃ k' c, y = Value.ref c ∧ κ.is s.heap k' c) (h : Q false s) :
    wpAny (model P w) A (searchCouldBeSeen (.ref b) ys) Q E s := by
  unfold searchCouldBeSeen
  refine wpAny_bind (wpAny_forIn_list _ (fun rest r s' => r.1 = none ∧ s' = s ∧ ∀ y ∈ rest, ∃ k' c, y = Value.ref c ∧ κ.is s.heap k' c) _ ?_ ?_ _ _ ⟨rfl, rfl, hy⟩)
  · rintro v rest r s' ⟨hr, rfl, hall⟩
    obtain ⟨k', c, rfl, hc⟩ := hall v List.mem_cons_self
    have tl := fun u hu' => hall u (List.mem_cons_of_mem _ hu')
    dsimp only
    by_cases hv : (b == c || (carriedByValue (.ref b) && carriedByValue (.ref c))) = true
    · exact wp_if_pos hv (wpAny_pure ⟨rfl, rfl, tl⟩)
    · refine wp_if_neg hv (wpAny_bind (κ.quiet hk ?_))
      simp only [Bool.not_true, Bool.false_eq_true, if_false]
      refine wpAny_bind (κ.quiet hc ?_)
      simp only [Bool.not_true, Bool.false_eq_true, if_false]
      refine wpAny_bind (κ.noStmt hk ?_)
      simp only [Bool.false_eq_true, if_false]
      refine wpAny_bind (κ.noStmt hc ?_)
      simp only [Bool.false_eq_true, if_false]
      exact wpAny_pure ⟨rfl, rfl, tl⟩
  · rintro ⟨r1, r2⟩ s' ⟨hr, rfl, _⟩
    simp only at hr
    subst hr
    exact wpAny_pure h

def krows (κ : SKind P w K) (L : List (Addr × K)) : List (Int × Value) := L.map fun p => (κ.hash p.2, Value.ref p.1)
/-- the set at a holds the keys of L -/
structure KSetAt (κ : SKind P w K) (h : Heap) (a : Addr) (L : List (Addr × K)) (es : Array (Int × Value)) (ep : Nat) (t : SetTable) : Prop where
  obj : ∃ o, h.get? a = some o ∧ o.ExactSet ∧ o.data = .set es ep t
  rows : es.toList = krows κ L
  tab : TabOk t (L.map fun p => κ.hash p.2)
  nd : (L.map (·.2)).Nodup
  mem : ∀ p ∈ L, κ.is h p.2 p.1
  led : w.params.followText "set-order" = true ∨ t.led = true
  room : L.length * 5 < t.mask * 3
  few : L.length ≤ 76
variable {a : Addr} {L : List (Addr × K)} {es : Array (Int × Value)} {ep : Nat} {t : SetTable}
theorem rows_size (hr : es.toList = krows κ L) : es.size = L.length := by
  have h := congrArg List.length hr
  unfold krows at h
  simpa using h
theorem rows_get (hr : es.toList = krows κ L) {i : Nat} {p : Addr × K} (h : L[i]? = some p) : es[i]? = some (κ.hash p.2, Value.ref p.1) := by
  rw [← Array.getElem?_toList, hr]
  unfold krows
  rw [List.getElem?_map, h]
  rfl
theorem KSetAt.size (R : KSetAt κ s.heap a L es ep t) : es.size = L.length := rows_size R.rows
theorem KSetAt.fits (R : KSetAt κ s.heap a L es ep t) : t.fits es.size = true := by
  have h1 := R.tab.sz
  rw [List.length_map] at h1
  have h2 := R.size
  have h3 := R.room
  unfold SetTable.fits SetTable.fill
  rw [R.tab.dm, Bool.and_eq_true, beq_iff_eq, decide_eq_true_eq]
  show t.place.size = es.size ∧ t.place.size + 0 ≤ t.mask
  omega
theorem KSetAt.noGap (R : KSetAt κ s.heap a L es ep t) : ¬ t.gaveWay = true := by
  unfold SetTable.gaveWay
  rw [mask_odd R.tab.mok]
  decide

/-- where the search for the key of hash h stands after c steps -/
abbrev at_ (t : SetTable) (h : Int) (c : Nat) : SetTable.Probe := nth t.mask (runAt t.mask (SetTable.bits h % (t.mask + 1)) (SetTable.bits h)) c
theorem at_add (t : SetTable) (h : Int) (c q : Nat) : nth t.mask (at_ t h c) q = at_ t h (c + q) := (nth_add t.mask c _ q).symm
theorem at_j (t : SetTable) (h : Int) (c q : Nat) : (nth t.mask (at_ t h c) q).j = way t.mask h (c + q) := congrArg SetTable.Probe.j (at_add t h c q)
theorem at_dummy (t : SetTable) (h : Int) (c : Nat) : (at_ t h c).dummy = none := by
  have key : ∀ (n : Nat) (p : SetTable.Probe), p.dummy = none → (nth t.mask p n).dummy = none := by
    intro n
    induction n with
    | zero => exact fun _ h => h
    | succ n ih =>
      intro p h
      refine ih (adv t.mask p) ?_
      unfold adv
      split <;> exact h
  exact key c _ rfl

/-- THE SEARCH, from its c-th step on -/
theorem seek (R : KSetAt κ s.heap a L es ep t) {x : Addr} {k : K} (hx : κ.is s.heap k x) (hu : A.units < cLine) {N : Nat} (hN : N < 10 * SetTable.turns t.mask)
    (hgap : way t.mask (κ.hash k) N ∉ t.place.toList) (hbef : ∀ c, c < N → way t.mask (κ.hash k) c ∈ t.place.toList) {Q : SetFound → Shared → Prop}
    (hin : k ∈ L.map (·.2) → Q (.there none) s) (hout : k ∉ L.map (·.2) → Q (.free (way t.mask (κ.hash k) N) false) s) :
    ∀ (f c : Nat) (stand : Option SetTable.Probe), stand.getD (t.probeStart (κ.hash k)) = at_ t (κ.hash k) c → c ≤ N → N - c < f →
      (∀ (i : Nat) p, L[i]? = some p → p.2 = k → ∃ c', c ≤ c' ∧ c' < N ∧ t.place.toList[i]? = some (way t.mask (κ.hash k) c')) →
      wpAny (model P w) A (setSearchFrom a (.ref x) (κ.hash k) true f stand) Q E s
  | 0, _, _, _, _, hf, _ => absurd hf (Nat.not_lt_zero _)
  | f + 1, c, stand, hst, hc, hf, hre => by
    obtain ⟨o, ho, hex, hd⟩ := R.obj
    rw [setSearchFrom_succ]
    refine wpAny_bind (wpAny_setState_of ho hd R.fits ?_)
    dsimp only
    refine wp_if_neg R.noGap ?_
    try refine wpAny_bind (wpAny_pure ?_)
    have spec := go_spec t R.tab.ris R.tab.dm (fun i => (es[i]?.map (·.1)).getD 0) (κ.hash k) (10 * SetTable.turns t.mask) (N - c) _ (at_dummy t (κ.hash k) c) (by omega)
      (fun q hq => by rw [at_j]; exact hbef (c + q) (by omega)) (by rw [at_j, show c + (N - c) = N by omega]; exact hgap)
    have hashAt : ∀ (i : Nat) p, L[i]? = some p → (es[i]?.map (·.1)).getD 0 = κ.hash p.2 := fun i p hp => by
      rw [rows_get R.rows hp]
      rfl
    rcases spec with ⟨q, i, hq, hi, hh, hno, hpr⟩ | ⟨hno, hpr⟩
    · rw [show t.probe (fun i => (es[i]?.map (·.1)).getD 0) (κ.hash k) (stand.getD (t.probeStart (κ.hash k))) = some (.candidate (way t.mask (κ.hash k) (c + q)) i (at_ t (κ.hash k) (c + (q + 1)))) by
        rw [hst, ← at_j, ← at_add]
        exact hpr]
      dsimp only
      rw [at_j] at hi
      have hil : i < L.length := by
        have h1 : i < t.place.toList.length := (List.getElem?_eq_some_iff.mp hi).1
        have h2 := R.tab.sz
        rw [List.length_map] at h2
        rw [Array.length_toList] at h1
        omega
      obtain ⟨p, hp⟩ : ∃ p, L[i]? = some p := ⟨L[i], List.getElem?_eq_getElem hil⟩
      have hmem : p ∈ L := List.mem_of_getElem? hp
      have more : wpAny (model P w) A (searchRest a (.ref x) (κ.hash k) true f es t (way t.mask (κ.hash k) (c + q)) i (at_ t (κ.hash k) (c + (q + 1)))) Q E s := by
        unfold searchRest
        rw [rows_get R.rows hp]
        dsimp only
        refine wpAny_bind (wpAny_holding (κ.eqs hu (R.mem p hmem) hx ?_))
        refine wpAny_bind (wpAny_setState_of ho hd R.fits ?_)
        dsimp only
        by_cases hkk : p.2 = k
        · refine wp_if_pos (by simp [hkk]) (wpAny_pure (hin ?_))
          exact List.mem_map.mpr ⟨p, hmem, hkk⟩
        · refine wp_if_neg (by simp [hkk]) ?_
          try refine wpAny_bind (wpAny_pure ?_)
          rw [sameMem]
          dsimp only
          have hsl : t.slot (way t.mask (κ.hash k) (c + q)) = .live i := slot_live R.tab.ris hi
          simp only [if_true, hsl, rows_get R.rows hp]
          refine wpAny_bind (wpAny_isSame_ref_self (wpAny_bind (wpAny_pure ?_)))
          simp only [if_true]
          refine wp_if_neg (by simp [hkk]) ?_
          refine seek R hx hu hN hgap hbef hin hout f (c + (q + 1)) _ rfl (by omega) (by omega) fun j p' hj hk' => ?_
          obtain ⟨c', a1, a2, a3⟩ := hre j p' hj hk'
          refine ⟨c', ?_, a2, a3⟩
          rcases Nat.lt_trichotomy c' (c + q) with z | z | z
          · refine absurd ((hashAt j p' hj).trans (congrArg κ.hash hk')) (hno (c' - c) j (by omega) ?_)
            rw [at_j, show c + (c' - c) = c' by omega]
            exact a3
          · rw [z] at a3
            have s0 := slot_live R.tab.ris a3
            rw [hsl] at s0
            injection s0 with s0
            rw [← s0, hp] at hj
            exact absurd ((congrArg Prod.snd (Option.some.inj hj)).trans hk') hkk
          · omega
      by_cases hl : t.led = true
      · refine wp_if_neg (by simp [hl]) ?_
        try refine wpAny_bind (wpAny_pure ?_)
        exact more
      · refine wp_if_pos (by simp [hl]) (wpAny_bind (unseen (κ := κ) hx (fun y hy => ?_) ?_))
        · obtain ⟨e, he, rfl⟩ := List.mem_map.mp hy
          have he1 : e ∈ es ∧ e.1 = κ.hash k := by simpa using he
          have he2 : e ∈ es.toList := by simpa using he1.1
          rw [R.rows] at he2
          obtain ⟨p2, hp2, rfl⟩ := List.mem_map.mp he2
          exact ⟨p2.2, p2.1, rfl, R.mem p2 hp2⟩
        · refine wp_if_neg (by decide) ?_
          try refine wpAny_bind (wpAny_pure ?_)
          exact more
    · rw [show t.probe (fun i => (es[i]?.map (·.1)).getD 0) (κ.hash k) (stand.getD (t.probeStart (κ.hash k))) = some (.empty (way t.mask (κ.hash k) N) none) by
        have e2 : way t.mask (κ.hash k) N = (nth t.mask (at_ t (κ.hash k) c) (N - c)).j := by
          rw [at_j, show c + (N - c) = N by omega]
        rw [hst, e2]
        exact hpr]
      dsimp only
      refine wpAny_pure (hout fun hm => ?_)
      obtain ⟨p, hp, hk⟩ := List.mem_map.mp hm
      obtain ⟨i, hi, e0⟩ := List.getElem_of_mem hp
      have hi' : L[i]? = some p := by rw [List.getElem?_eq_getElem hi, e0]
      obtain ⟨c', a1, a2, a3⟩ := hre i p hi' hk
      refine hno (c' - c) i (by omega) (by rw [at_j, show c + (c' - c) = c' by omega]; exact a3) ?_
      exact (hashAt i p hi').trans (congrArg κ.hash hk)

/-- the search as adding asks for it -/
theorem sought (R : KSetAt κ s.heap a L es ep t) {x : Addr} {k : K} (hx : κ.is s.heap k x) (hu : A.units < cLine) {Q : SetFound → Shared → Prop}
    (hin : k ∈ L.map (·.2) → Q (.there none) s)
    (hout : ∀ N, k ∉ L.map (·.2) → way t.mask (κ.hash k) N ∉ t.place.toList → (∀ c, c < N → way t.mask (κ.hash k) c ∈ t.place.toList) → Q (.free (way t.mask (κ.hash k) N) false) s) :
    wpAny (model P w) A (setSearch a (.ref x) (κ.hash k) true) Q E s := by
  have hroom := R.room
  obtain ⟨N, hNf, hN, hNb⟩ := R.tab.first (by rw [List.length_map]; omega) (κ.hash k)
  have hbig : N < 100000 := by
    have : 10 * SetTable.turns t.mask ≤ 1420 := by
      unfold SetTable.turns
      rcases R.tab.mok with e | e | e <;> omega
    omega
  unfold setSearch
  refine seek R hx hu hNf hN hNb hin (fun hn => hout N hn hN hNb) 100000 0 none rfl (Nat.zero_le _) (by omega) fun i p hp hk => ?_
  have hi : (L.map fun p => κ.hash p.2)[i]? = some (κ.hash k) := by
    rw [List.getElem?_map, hp, ← hk]
    rfl
  have hil : i < t.place.toList.length := by
    have h1 : i < L.length := (List.getElem?_eq_some_iff.mp hp).1
    have h2 := R.tab.sz
    rw [List.length_map] at h2
    rw [Array.length_toList]
    omega
  have hj := List.getElem?_eq_getElem hil
  obtain ⟨c, hc, e⟩ := R.tab.before hN hi hj
  exact ⟨c, Nat.zero_le _, hc, by rw [hj, e]⟩
end
end KS

namespace KS
open PySem PySem.Spec PyProof.Rows L2
section
variable {P : Program} {w : World} {A : Around} {E : Value → Shared → Prop} {s : Shared} {K : Type} [DecidableEq K] {κ : SKind P w K}

/-- a member is not the set itself -/
theorem is_same {h h' : Heap} {k : K} {a b : Addr} {o : Obj} {es : Array (Int × Value)} {ep : Nat} {t : SetTable} (hb : κ.is h k b) (ho : h.get? a = some o) (hd : o.data = .set es ep t) (hs : Heap.SameBut a h h') : κ.is h' k b :=
  κ.keep hb fun c u its n hu hc => by
    refine (hs.2 c fun e => ?_).trans hu
    subst e
    rw [ho] at hu
    cases hu
    rw [hd] at hc
    cases hc
theorem is_mono {h h' : Heap} {k : K} {b : Addr} (x : κ.is h k b) (hk : ∀ c o, h.get? c = some o → h'.get? c = some o) : κ.is h' k b := κ.keep x fun c u _ _ hu _ => hk c u hu
theorem krows_put (L : List (Addr × K)) (p : Nat) (x : Addr) (k : K) : krows κ (L.take p ++ (x, k) :: L.drop p) = (krows κ L).take p ++ (κ.hash k, Value.ref x) :: (krows κ L).drop p := by
  unfold krows
  rw [List.map_append, List.map_cons, List.map_take, List.map_drop]
theorem picks_all {α : Type} (L : List α) : (List.range L.length).filterMap (fun i => L[i]?) = L := by
  have key : ∀ n, n ≤ L.length → (List.range n).filterMap (fun i => L[i]?) = L.take n := by
    intro n
    induction n with
    | zero => intro _; rfl
    | succ n ih =>
      intro hn
      rw [List.range_succ, List.filterMap_append, ih (Nat.le_of_lt hn), List.take_succ, List.getElem?_eq_getElem hn, List.filterMap_cons_some (List.getElem?_eq_getElem hn)]
      rfl
  rw [key L.length (Nat.le_refl _), List.take_length]
theorem reorder (L : List (Addr × K)) (es : Array (Int × Value)) (order : Array Nat) (hr : es.toList = krows κ L) (hp : order.toList.Perm (List.range L.length)) :
    ∃ L2, (order.filterMap (es[·]?)).toList = krows κ L2 ∧ L2.Perm L ∧ (L2.map fun p => κ.hash p.2) = order.toList.map fun i => (es.map (·.1)).getD i 0 := by
  have hsz := rows_size hr
  have ent : ∀ i (h : i < L.length), es[i]? = some (κ.hash (L[i]).2, Value.ref (L[i]).1) := fun i h => rows_get hr (List.getElem?_eq_getElem h)
  have key : ∀ l : List Nat, (∀ i ∈ l, i < L.length) → ∃ L2 : List (Addr × K), l.filterMap (fun i => es[i]?) = krows κ L2 ∧ L2 = l.filterMap (fun i => L[i]?) ∧ (L2.map fun p => κ.hash p.2) = l.map fun i => (es.map (·.1)).getD i 0 := by
    intro l
    induction l with
    | nil => exact fun _ => ⟨[], rfl, rfl, rfl⟩
    | cons i l ih =>
      intro hl
      have hi := hl i List.mem_cons_self
      obtain ⟨L2, e1, e2, e3⟩ := ih fun j hj => hl j (List.mem_cons_of_mem _ hj)
      refine ⟨L[i] :: L2, ?_, ?_, ?_⟩
      · rw [List.filterMap_cons_some (ent i hi), e1]
        rfl
      · rw [List.filterMap_cons_some (List.getElem?_eq_getElem hi), e2]
      · have e5 : (es.map (·.1))[i]? = some (κ.hash (L[i]).2) := by
          rw [Array.getElem?_map, ent i hi]
          rfl
        rw [List.map_cons, List.map_cons, e3, show (es.map (·.1)).getD i 0 = κ.hash (L[i]).2 by simp [Array.getD_eq_getD_getElem?, e5]]
  obtain ⟨L2, e1, e2, e3⟩ := key order.toList fun i hi => List.mem_range.mp (hp.mem_iff.mp hi)
  refine ⟨L2, by first | (rw [Array.toList_filterMap]; exact e1) | simpa using e1, ?_, e3⟩
  have h1 : L2.Perm ((List.range L.length).filterMap fun i => L[i]?) := by
    rw [e2]
    exact hp.filterMap _
  rwa [picks_all] at h1

/-- only the mark of plainness apart -/
theorem TabOk_plain {t : SetTable} {hs : List Int} (T : TabOk t hs) (b : Bool) : TabOk { t with plain := b } hs := ⟨T.ris, T.dm, T.sz, T.mok, T.bd, T.reach⟩

variable {a : Addr} {L : List (Addr × K)} {es : Array (Int × Value)} {ep : Nat} {t : SetTable}
/-- the table laid anew, larger -/
theorem relaid_at {o : Obj} (ho : s.heap.get? a = some o) (hex : o.ExactSet) (hd : o.data = .set es ep t) (hrows : es.toList = krows κ L) (hsz : t.place.size = es.size) (hdm : t.dummies = #[]) (hfl : es.size ≤ t.mask)
    (nd : (L.map (·.2)).Nodup) (mem : ∀ p ∈ L, κ.is s.heap p.2 p.1) (ld : w.params.followText "set-order" = true ∨ t.led = true) (few : L.length ≤ 76) {wanted M : Nat}
    (hw : SetTable.sizeAbove wanted - 1 = M) (hM : MaskOk M) (hw2 : SetTable.sizeAbove wanted ≤ 128) (hn : L.length * 5 < M * 3) {Q : Unit → Shared → Prop}
    (hQ : ∀ h' L' es' ep' t', Heap.SameBut a s.heap h' → KSetAt κ h' a L' es' ep' t' → L'.Perm L → Q () { s with heap := h' }) : wpAny (model P w) A (setRelay a wanted) Q E s := by
  have hsl := rows_size hrows
  have hfits : t.fits es.size = true := by
    unfold SetTable.fits SetTable.fill
    rw [hdm, Bool.and_eq_true, beq_iff_eq, decide_eq_true_eq]
    show t.place.size = es.size ∧ t.place.size + 0 ≤ t.mask
    omega
  obtain ⟨t', order, e, hp, T, em, el, _, _⟩ := relaid_ok t (hs := es.map (·.1)) (wanted := wanted) hw hM (by rw [Array.size_map, hsl]; omega)
  rw [Array.size_map, hsl] at hp
  obtain ⟨L2, r1, r2, r3⟩ := reorder (κ := κ) L es order hrows hp
  rw [← r3] at T
  have hs2 : (order.filterMap (es[·]?)).size = es.size := by
    rw [rows_size r1, r2.length_eq, hsl]
  rw [setRelay_eq]
  refine wpAny_bind (wpAny_setState_of ho hd hfits ?_)
  dsimp only
  refine wp_if_neg (by rw [sizeLine_eq]; omega) ?_
  try refine wpAny_bind (wpAny_pure ?_)
  rw [e]
  dsimp only
  refine wpAny_bind (wp_if_neg (by rw [hs2]; simp) ?_)
  try refine wpAny_bind (wpAny_pure ?_)
  refine wpAny_pure ?_
  dsimp only
  refine wpAny_storeSet_of ho hd ?_ (by rw [hs2, hsl, sizeLine_eq]; omega)
  have sb : Heap.SameBut a s.heap (s.heap.update a (Obj.putSet (order.filterMap (es[·]?)) t')) := Heap.SameBut.update ..
  refine hQ _ L2 (order.filterMap (es[·]?)) (ep + 1) t' sb ?_ r2
  refine ⟨⟨_, store_at ho hd, ⟨hex.1, hex.2.1, hex.2.2⟩, rfl⟩, r1, T, (r2.map (·.2)).nodup_iff.mpr nd, fun p hpm => is_same (mem p (r2.mem_iff.mp hpm)) ho hd sb, by rw [el]; exact ld, ?_, by rw [r2.length_eq]; exact few⟩
  rw [r2.length_eq, em]
  exact hn

/-- ADDING -/
theorem added (R : KSetAt κ s.heap a L es ep t) {x : Addr} {k : K} (hx : κ.is s.heap k x) (hu : A.units < cLine) (hfew : L.length + 1 ≤ 76) {Q : Bool → Shared → Prop}
    (hQ : ∀ b h' L' es' ep' t', Heap.SameBut a s.heap h' → KSetAt κ h' a L' es' ep' t' → (k ∈ L.map (·.2) → L' = L) → (k ∉ L.map (·.2) → L'.Perm ((x, k) :: L)) → Q b { s with heap := h' }) :
    wpAny (model P w) A (setAddHashed a (.ref x) (κ.hash k)) Q E s := by
  obtain ⟨o, ho, hex, hd⟩ := R.obj
  have hsl := R.size
  have hroom := R.room
  unfold setAddHashed
  refine wpAny_holding ?_
  rw [show (100000 : Nat) = 99999 + 1 from rfl, setAddHashedIn_succ]
  refine wpAny_bind (wpAny_setState_of ho hd R.fits ?_)
  dsimp only
  refine wp_if_neg (by simp [byScan, Value.scannable]) ?_
  try refine wpAny_bind (wpAny_pure ?_)
  refine wpAny_bind (sought R hx hu (fun hm => ?_) fun N hm hN hb => ?_)
  · dsimp only
    exact wpAny_pure (hQ false s.heap L es ep t (Heap.SameBut.refl a s.heap) R (fun _ => rfl) fun z => absurd hm z)
  · dsimp only
    refine wpAny_bind (wpAny_setState_of ho hd R.fits ?_)
    dsimp only
    obtain ⟨q1, q2, q3, q4, q5, q6, q7, q8, q9⟩ := R.tab.put hN hb
    generalize hpt : t.put (way t.mask (κ.hash k) N) = pt at q1 q3 q4 q5 q6 q7 q8 q9 ⊢
    obtain ⟨t1, p⟩ := pt
    dsimp only at q1 q3 q4 q5 q6 q7 q8 q9 ⊢
    subst q1
    have hin : (SetTable.insertAt es (SetTable.below t.place (way t.mask (κ.hash k) N)) (κ.hash k, Value.ref x)).toList = krows κ (L.take (SetTable.below t.place (way t.mask (κ.hash k) N)) ++ (x, k) :: L.drop (SetTable.below t.place (way t.mask (κ.hash k) N))) := by
      rw [SetTable.toList_insertAt, krows_put, R.rows]
    generalize hpp : SetTable.below t.place (way t.mask (κ.hash k) N) = p at q2 q3 hin ⊢
    have pm := put_perm L p (x, k)
    have hlen : (L.take p ++ (x, k) :: L.drop p).length = L.length + 1 := pm.length_eq
    have hhs : (L.take p ++ (x, k) :: L.drop p).map (fun p => κ.hash p.2) = (L.map fun p => κ.hash p.2).take p ++ κ.hash k :: (L.map fun p => κ.hash p.2).drop p := by
      rw [List.map_append, List.map_cons, List.map_take, List.map_drop]
    rw [← hhs] at q3
    have nd1 : ((L.take p ++ (x, k) :: L.drop p).map (·.2)).Nodup := by
      refine (pm.map (·.2)).nodup_iff.mpr ?_
      rw [List.map_cons]
      exact List.nodup_cons.mpr ⟨hm, R.nd⟩
    have hes : (SetTable.insertAt es p (κ.hash k, Value.ref x)).size = L.length + 1 := by rw [rows_size hin, hlen]
    generalize SetTable.insertAt es p (κ.hash k, Value.ref x) = es1 at hin hes ⊢
    generalize L.take p ++ (x, k) :: L.drop p = L1 at pm hlen q3 nd1 hin
    -- whatever the mark of plainness is then
    have all : ∀ t2 : SetTable, t2.mask = t1.mask → t2.led = t1.led → t2.fill = t1.fill → t2.place = t1.place → TabOk t2 (L1.map fun p => κ.hash p.2) →
        wpAny (model P w) A (do
          storeSet a es1 t2
          if !false && t2.tooFull then setRelay a (SetTable.grown (es.size + 1))
          return true) Q E s := fun t2 m2 l2 f2 pl2 T2 => by
      refine wpAny_bind (wpAny_storeSet_of ho hd ?_ (by rw [hes, sizeLine_eq]; omega))
      have sb : Heap.SameBut a s.heap (s.heap.update a (Obj.putSet es1 t2)) := Heap.SameBut.update ..
      have ho1 := store_at (es' := es1) (t' := t2) ho hd
      generalize s.heap.update a (Obj.putSet es1 t2) = h1 at sb ho1 ⊢
      have mem1 : ∀ p ∈ L1, κ.is h1 p.2 p.1 := fun p hp => by
        rcases List.mem_cons.mp (pm.mem_iff.mp hp) with e | hp
        · rw [e]; exact is_same hx ho hd sb
        · exact is_same (R.mem p hp) ho hd sb
      have ld1 : w.params.followText "set-order" = true ∨ t2.led = true := by rw [l2, q5]; exact R.led
      by_cases hf : t2.tooFull = true
      · first
          | (refine wpAny_bind ?_; refine wp_if_pos (by simp [hf]) ?_)
          | (refine wp_if_pos (by simp [hf]) ?_; refine wpAny_bind ?_)
        have hfull : (L.length + 1) * 5 ≥ t1.mask * 3 := by
          have h := hf
          unfold SetTable.tooFull at h
          rw [decide_eq_true_eq, f2, q9, List.length_map, m2] at h
          exact h
        rw [hsl]
        have cases2 : (t.mask = 7 ∧ L.length = 4) ∨ (t.mask = 31 ∧ L.length = 18) := by
          rcases R.tab.mok with e | e | e
          · left; rw [q4, e] at hfull; rw [e] at hroom; exact ⟨e, by omega⟩
          · right; rw [q4, e] at hfull; rw [e] at hroom; exact ⟨e, by omega⟩
          · exfalso; rw [q4, e] at hfull; omega
        have hsz1 : t2.place.size = es1.size := by
          have h := T2.sz
          rw [List.length_map, hlen] at h
          rw [h, hes]
        have go : ∀ M, SetTable.sizeAbove (SetTable.grown (L.length + 1)) - 1 = M → MaskOk M → SetTable.sizeAbove (SetTable.grown (L.length + 1)) ≤ 128 → (L.length + 1) * 5 < M * 3 →
            wpAny (model P w) A (setRelay a (SetTable.grown (L.length + 1))) (fun _ s' => wpAny (model P w) A (pure true) Q E s') E { s with heap := h1 } := fun M g1 g2 g3 g4 => by
          refine relaid_at (κ := κ) (s := { s with heap := h1 }) ho1 ⟨hex.1, hex.2.1, hex.2.2⟩ rfl hin hsz1 T2.dm (by rw [hes, m2, q4]; rcases cases2 with ⟨e, e2⟩ | ⟨e, e2⟩ <;> omega) nd1 mem1 ld1 (by rw [hlen]; exact hfew) g1 g2 g3 (by rw [hlen]; exact g4) ?_
          intro h2 L2 es2 ep2 t2 sb2 R2 pm2
          exact wpAny_pure (hQ true h2 L2 es2 ep2 t2 (sb.trans sb2) R2 (fun z => absurd z hm) fun _ => pm2.trans pm)
        rcases cases2 with ⟨_, e2⟩ | ⟨_, e2⟩
        · exact go 31 (by rw [e2, size_20]) (.inr (.inl rfl)) (by rw [e2, size_20]; decide) (by omega)
        · exact go 127 (by rw [e2, size_76]) (.inr (.inr rfl)) (by rw [e2, size_76]; decide) (by omega)
      · first
          | refine wp_if_neg (by simp [hf]) ?_
          | (refine wpAny_bind ?_; refine wp_if_neg (by simp [hf]) ?_; refine wpAny_pure ?_)
        refine wpAny_pure (hQ true h1 L1 es1 (ep + 1) t2 sb ⟨⟨_, ho1, ⟨hex.1, hex.2.1, hex.2.2⟩, rfl⟩, hin, T2, nd1, mem1, ld1, ?_, by rw [hlen]; exact hfew⟩ (fun z => absurd z hm) fun _ => pm)
        have h := hf
        unfold SetTable.tooFull at h
        rw [decide_eq_true_eq, f2, q9, List.length_map] at h
        rw [hlen]
        omega
    by_cases hp1 : t1.plain = true
    · first
        | (refine wpAny_bind ?_; refine wp_if_pos hp1 ?_; refine κ.byVal hx fun b => ?_)
        | refine wp_if_pos hp1 (wpAny_bind (κ.byVal hx fun b => ?_))
      cases b
      · simp only [Bool.false_eq_true, if_false]
        exact all { t1 with plain := false } rfl rfl rfl rfl (TabOk_plain q3 false)
      · simp only [if_true]
        exact all t1 rfl rfl rfl rfl q3
    · first
        | (refine wpAny_bind ?_; refine wp_if_neg hp1 ?_; refine wpAny_pure ?_)
        | refine wp_if_neg hp1 (wpAny_bind (wpAny_pure ?_))
      simp only [if_true]
      exact all t1 rfl rfl rfl rfl q3
end
end KS

namespace KS
open PySem PySem.Spec PyProof.Rows L2
/-- what the set has got from the first i items -/
structure Taken {K : Type} (ks : List (Addr × K)) (i : Nat) (L : List (Addr × K)) : Prop where
  sub : ∀ p ∈ L, p ∈ ks.take i
  all : ∀ p ∈ ks.take i, p.2 ∈ L.map (·.2)
  len : L.length ≤ i
theorem take_one {α : Type} {l : List α} {i : Nat} {x : α} (h : l[i]? = some x) : l.take (i + 1) = l.take i ++ [x] := by
  rw [List.take_succ, h]
  rfl
theorem Taken.zero {K : Type} (ks : List (Addr × K)) : Taken ks 0 [] := ⟨(fun p h => nomatch h), (fun p h => by simp at h), Nat.le_refl _⟩
theorem Taken.same {K : Type} {ks L : List (Addr × K)} {i : Nat} {x : Addr × K} (g : Taken ks i L) (h : ks[i]? = some x) (hm : x.2 ∈ L.map (·.2)) : Taken ks (i + 1) L := by
  refine ⟨fun p hp => ?_, fun p hp => ?_, Nat.le_succ_of_le g.len⟩
  · rw [take_one h]; exact List.mem_append_left _ (g.sub p hp)
  · rw [take_one h] at hp
    rcases List.mem_append.mp hp with z | z
    · exact g.all p z
    · rw [List.mem_singleton.mp z]; exact hm
theorem Taken.more {K : Type} {ks L L' : List (Addr × K)} {i : Nat} {x : Addr × K} (g : Taken ks i L) (h : ks[i]? = some x) (pm : L'.Perm (x :: L)) : Taken ks (i + 1) L' := by
  refine ⟨fun p hp => ?_, fun p hp => ?_, ?_⟩
  · rw [take_one h]
    rcases List.mem_cons.mp (pm.mem_iff.mp hp) with e | z
    · rw [e]; exact List.mem_append_right _ (List.mem_singleton.mpr rfl)
    · exact List.mem_append_left _ (g.sub p z)
  · rw [(pm.map (·.2)).mem_iff, List.map_cons]
    rw [take_one h] at hp
    rcases List.mem_append.mp hp with z | z
    · exact List.mem_cons_of_mem _ (g.all p z)
    · rw [List.mem_singleton.mp z]; exact List.mem_cons_self
  · rw [pm.length_eq, List.length_cons]; exact Nat.succ_le_succ g.len

section
variable {P : Program} {w : World} {A : Around} {E : Value → Shared → Prop} {s : Shared} {K : Type} [DecidableEq K] {κ : SKind P w K}
theorem KSetAt.keep {h h' : Heap} {a : Addr} {L : List (Addr × K)} {es : Array (Int × Value)} {ep : Nat} {t : SetTable} (R : KSetAt κ h a L es ep t) (ha : ∀ o, h.get? a = some o → h'.get? a = some o) (ht : ∀ p ∈ L, κ.is h' p.2 p.1) : KSetAt κ h' a L es ep t := by
  obtain ⟨o, ho, r⟩ := R.obj
  exact ⟨⟨o, ha o ho, r⟩, R.rows, R.tab, R.nd, ht, R.led, R.room, R.few⟩
/-- the empty set's object -/
abbrev newSetO (w : World) : Obj := { cls := .type "set", dict := none, data := .set #[] 0 (.fresh 0 0 (!w.params.followText "set-order")) }
theorem kset_new {h : Heap} {a : Addr} (ho : h.get? a = some (newSetO w)) : KSetAt κ h a [] #[] 0 (.fresh 0 0 (!w.params.followText "set-order")) where
  obj := ⟨_, ho, ⟨rfl, rfl, rfl⟩, rfl⟩
  rows := rfl
  tab := ⟨List.Pairwise.nil, rfl, rfl, .inl rfl, (fun x hx => nomatch hx), (fun i h j hi => by simp at hi)⟩
  nd := List.nodup_nil
  mem := fun p hp => nomatch hp
  led := by
    show _ ∨ (!w.params.followText "set-order") = true
    cases w.params.followText "set-order"
    · exact .inr rfl
    · exact .inl rfl
  room := by show 0 * 5 < 7 * 3; decide
  few := Nat.zero_le _

/-- set.update's loop -/
theorem fill_loop {I : Addr} {fp wr : List Addr} {G : Array GenState → Array GenState → Prop} {n : Nat} {Pv : Nat → Value → Prop} {St : Nat → Shared → Prop} {R : Result → Shared → Prop}
    (W : WalksS P w A.in1 I fp wr G n Pv St) (S : Addr) (hSf : S ∉ fp) (ks : List (Addr × K)) (hn : n = ks.length) (hfew : ks.length ≤ 76) (hval : ∀ i v, Pv i v → ∃ p, ks[i]? = some p ∧ v = .ref p.1)
    (h0 : Heap) (hk : ∀ p ∈ ks, κ.is h0 p.2 p.1) (hS0 : h0.get? S = none) (hw0 : ∀ b ∈ wr, h0.get? b = none) (hu : A.in1.units < cLine) :
    ∀ (k i : Nat) (s : Shared), n - i = k → i ≤ n → St i s → (∀ b o, h0.get? b = some o → s.heap.get? b = some o) → (∃ L es ep t, KSetAt κ s.heap S L es ep t ∧ Taken ks i L) →
      (∀ s' L es ep t, Moved (S :: wr) G s s' → KSetAt κ s'.heap S L es ep t → Taken ks n L → (∀ b o, h0.get? b = some o → s'.heap.get? b = some o) → R (.ok (.ret .none)) s') →
      codeAny (model P w) A (.builtin "set.update.loop" ⟨[.ref S, .ref I], []⟩) R s := by
  have hSw : S ∉ wr := fun h => hSf (W.sub _ h)
  have up : ∀ b ∈ wr, b ∈ S :: wr := fun b hb => List.mem_cons_of_mem _ hb
  have kept : ∀ {s s' : Shared}, Moved wr G s s' → (∀ b o, h0.get? b = some o → s.heap.get? b = some o) → ∀ b o, h0.get? b = some o → s'.heap.get? b = some o := fun hm hkp b o e =>
    hm.heap b o (fun hb => by rw [hw0 b hb] at e; cases e) (hkp b o e)
  intro k
  induction k with
  | zero =>
    intro i s hk' hi hst hkp ⟨L, es, ep, t, hS, g⟩ hR
    obtain rfl : i = n := by omega
    refine codeAny_builtin F.entry_set_update_loop ?_
    rw [Around.under_plainId F.plain_set_update_loop _]
    show wpAny _ A.in1 (pyNext (.ref I) >>= _) _ _ s
    refine wpAny_bind (W.done s _ _ hst fun s' hm => ?_)
    show wpAny _ A.in1 (ret Value.none) _ _ s'
    have hkp' := kept hm hkp
    exact wpAny_pure (hR s' L es ep t (hm.mono up) (hS.keep (fun o e => hm.heap S o hSw e) fun p hp => is_mono (hk p (List.mem_of_mem_take (g.sub p hp))) hkp') g hkp')
  | succ k ih =>
    intro i s hk' hi hst hkp ⟨L, es, ep, t, hS, g⟩ hR
    have hlt : i < n := by omega
    refine codeAny_builtin F.entry_set_update_loop ?_
    rw [Around.under_plainId F.plain_set_update_loop _]
    show wpAny _ A.in1 (pyNext (.ref I) >>= _) _ _ s
    refine wpAny_bind (W.item i s _ _ hlt hst fun v s' hP hst' hm => ?_)
    obtain ⟨p, hp, rfl⟩ := hval i v hP
    have hkp' := kept hm hkp
    have hS' : KSetAt κ s'.heap S L es ep t := hS.keep (fun o e => hm.heap S o hSw e) fun q hq => is_mono (hk q (List.mem_of_mem_take (g.sub q hq))) hkp'
    have hx : κ.is s'.heap p.2 p.1 := is_mono (hk p (List.mem_of_getElem? hp)) hkp'
    show wpAny _ A.in1 (holding [Value.ref p.1] (setAdd S (.ref p.1)) >>= _) _ _ s'
    refine wpAny_bind (wpAny_holding ?_)
    unfold setAdd
    refine wpAny_holding (wpAny_bind (κ.hashed hu hx ?_))
    refine added (s := { s' with toks := s'.toks + κ.draws p.2 }) hS' hx hu (by have := g.len; omega) fun b h' L' es' ep' t' hsb hS2 c1 c2 => ?_
    have g' : Taken ks (i + 1) L' := by
      by_cases c : p.2 ∈ L.map (·.2)
      · rw [c1 c]; exact g.same hp c
      · exact g.more hp (c2 c)
    have hkp2 : ∀ b o, h0.get? b = some o → h'.get? b = some o := fun b o e => (hsb.2 b (fun z => by rw [z, hS0] at e; cases e)).trans (hkp' b o e)
    refine wpAny_pure ⟨plainId_quiet F.plain_set_update_loop _, ih (i + 1) _ (by omega) hlt (W.frame _ s' _ _ hst' (Nat.le_add_right _ _) fun b hb o e => ?_) hkp2 ⟨L', es', ep', t', hS2, g'⟩ fun s'' L2 es2 ep2 t2 hm'' hS'' g'' hkp'' => ?_⟩
    · rw [hsb.2 b (fun h : b = S => hSf (by rw [← h]; exact hb))]; exact e
    · refine hR s'' L2 es2 ep2 t2 (Moved.trans W.gtrans ((hm.mono up).then_heap (Nat.le_add_right _ _) fun b o hb e => ?_) hm'') hS'' g'' hkp''
      rw [hsb.2 b (fun h : b = S => hb (by rw [h]; exact List.mem_cons_self))]; exact e

/-- set(xs), xs a list: the loop that fills it is told -/
theorem set_call {l : Addr} {items : Array Value} {Res : Heap → Prop} {Q : Value → Shared → Prop} (hh : A.handled = none) (hl : s.heap.IsList l items)
    (loop : ∀ (A' : Around) (n' : Nat) (R : Result → Shared → Prop), A'.handled = none → A'.units = A.units + 2 → n' = (s.heap.push (newSetO w)).objs.size →
      (∀ h' tk, Res h' → (∀ b o, s.heap.get? b = some o → h'.get? b = some o) → R (.ok (.ret .none)) { s with heap := h', toks := tk }) →
      codeAny (model P w) A' (.builtin "set.update.loop" ⟨[.ref s.heap.objs.size, .ref n'], []⟩) R { s with heap := (s.heap.push (newSetO w)).push { cls := .type "list_iterator", data := .fields #[.ref l, .int 0 0] } })
    (h : ∀ (h' : Heap) (tk : Nat), Res h' → (∀ b o, s.heap.get? b = some o → h'.get? b = some o) → Q (.ref s.heap.objs.size) { s with heap := h', toks := tk }) :
    wpAny (model P w) A (call (.type "set") [.ref l]) Q E s := by
  obtain ⟨c, tl, hmro⟩ := F.called_set.mro
  have hmade := F.called_set.made
  have hsub := F.called_set.sub
  refine wpAny_call (codeAny_of_tree ?_)
  show wpAny _ _ (callAny (.type "set") _) _ _ _
  refine wpAny_pure ⟨Code.quiet_builtin _ (by decide +kernel), codeAny_builtin F.entry_type_call ?_⟩
  rw [Around.under_plain (weight_type_call_type "set" [.ref l] []) rfl]
  have h1 := F.called_set.notType
  have h2 := F.called_set.canCreate
  have hct := F.typeCall_set_1 (.ref l)
  repeat (any_goals (first | assumption | wp_step))
  refine codeAny_mono (code_set_led1 (.ref l) (E := E) (Q₁ := fun obj s₁ => obj = .ref s.heap.objs.size ∧ s₁ = { s with heap := s.heap.push (newSetO w) }) ⟨rfl, rfl⟩) fun r s₁ hr => ?_
  cases r with
  | error e => exact hr
  | ok fl =>
    cases fl with
    | ret obj =>
      obtain ⟨rfl, rfl⟩ := hr
      have hS : (s.heap.push (newSetO w)).get? s.heap.objs.size = some (newSetO w) := Heap.get?_push_size _ rfl
      have hT : Shared.TypeIs { s with heap := s.heap.push (newSetO w) } (.ref s.heap.objs.size) "set" := ⟨_, hS, rfl⟩
      have hli := F.called_set.init.lookup
      have hbi := F.called_set.init.bind (.ref s.heap.objs.size)
      repeat (any_goals (first | assumption | wp_step))
      refine codeAny_mono (codeAny_call_builtin (R := wants (fun r s₂ => r = .none ∧ ∃ h' tk, s₂ = { s with heap := h', toks := tk } ∧ Res h' ∧
          (∀ b o, s.heap.get? b = some o → h'.get? b = some o)) E) F.called_set.init.plain F.entry_set_init (check_set_init_1 hT ?_)) fun r₂ s₂ hr₂ => ?_
      · obtain ⟨ol, hol, hcl, nl, hdl⟩ := hl
        obtain ⟨ocls, odict, odata, oslots⟩ := ol
        simp only at hcl hdl
        subst hcl; subst hdl
        have hol' : (s.heap.push (newSetO w)).get? l = some { cls := .type "list", dict := odict, data := .seq items nl, slots := oslots } := Heap.get?_push_of_some _ hol
        have hsls := F.sub_list_set
        have hslf := F.sub_list_frozenset
        have hne : (Value.type "list" == Value.type "dict") = false := by decide
        have hl1 : (s.heap.push (newSetO w)).IsList l items := ⟨_, hol', rfl, nl, rfl⟩
        unfold Builtin.«set.__init__» noKeywords Builtin.Frozenset.updateFrom
        generalize hPI : pyIter = PI
        wp_walk
        subst hPI
        refine wpAny_pyIter_list hl1 ?_
        refine wpAny_bind (wpAny_runValue ?_)
        refine loop _ _ _ (by simp [hh]) rfl rfl fun h' tk hR hk => ?_
        show wpAny _ _ _ _ _ _
        refine wpAny_pure ?_
        show wpAny _ _ (ret Value.none) _ _ _
        exact wpAny_pure ⟨rfl, h', tk, rfl, hR, hk⟩
      · cases r₂ with
        | error e => exact hr₂
        | ok fl₂ =>
          cases fl₂ with
          | ret r =>
            obtain ⟨rfl, h', tk, rfl, hR, hk⟩ := hr₂
            repeat (any_goals (first | assumption | wp_step))
            exact h _ _ hR hk
          | _ => exact hr₂.elim
    | _ => exact hr.elim
theorem none_of {h : Heap} {b : Addr} (hb : h.objs.size ≤ b) : h.get? b = none := by
  cases q : h.get? b with
  | none => rfl
  | some o => exact absurd (Nat.lt_of_lt_of_le (Heap.lt_size q) hb) (Nat.lt_irrefl _)
/-- set(xs), xs a list of keys -/
theorem set_of_list {l : Addr} {items : Array Value} (ks : List (Addr × K)) {Q : Value → Shared → Prop} (hh : A.handled = none) (hl : s.heap.IsList l items) (hit : items.toList = ks.map fun p => Value.ref p.1)
    (hk : ∀ p ∈ ks, κ.is s.heap p.2 p.1) (hfew : ks.length ≤ 76) (hu : A.units + 4 < cLine)
    (h : ∀ (h' : Heap) (tk : Nat) L es ep t, KSetAt κ h' s.heap.objs.size L es ep t → Taken ks ks.length L → (∀ b o, s.heap.get? b = some o → h'.get? b = some o) → Q (.ref s.heap.objs.size) { s with heap := h', toks := tk }) :
    wpAny (model P w) A (call (.type "set") [.ref l]) Q E s := by
  have hisz : items.size = ks.length := by
    have q := congrArg List.length hit
    rw [Array.length_toList, List.length_map] at q
    exact q
  have hol : ∃ o, s.heap.get? l = some o := hl.elim fun o ho => ⟨o, ho.1⟩
  have hlS : l < s.heap.objs.size := hol.elim fun o ho => Heap.lt_size ho
  refine set_call (Res := fun h' => ∃ L es ep t, KSetAt κ h' s.heap.objs.size L es ep t ∧ Taken ks ks.length L) hh hl (fun A' n' R hA uA en hR => ?_) (fun h' tk ⟨L, es, ep, t, a1, a2⟩ hk' => h h' tk L es ep t a1 a2 hk')
  subst en
  have hl1 : (s.heap.push (newSetO w)).IsList l items := hl.elim fun o ho => ⟨o, Heap.get?_push_of_some _ ho.1, ho.2⟩
  have hS : (s.heap.push (newSetO w)).get? s.heap.objs.size = some (newSetO w) := Heap.get?_push_size _ rfl
  have hneI : l ≠ (s.heap.push (newSetO w)).objs.size := by
    rw [Heap.size_push]; exact Nat.ne_of_lt (Nat.lt_succ_of_lt hlS)
  have hSf : s.heap.objs.size ∉ [(s.heap.push (newSetO w)).objs.size, l] := by
    rw [Heap.size_push]; simp only [List.mem_cons, List.mem_singleton, List.not_mem_nil, or_false, not_or]
    exact ⟨Nat.ne_of_lt (Nat.lt_succ_self _), Nat.ne_of_gt hlS⟩
  have hval : ∀ (i : Nat) (v : Value), items[i]? = some v → ∃ p, ks[i]? = some p ∧ v = .ref p.1 := fun i v hv => by
    have q : items.toList[i]? = some v := by rw [Array.getElem?_toList]; exact hv
    rw [hit, List.getElem?_map] at q
    cases hq : ks[i]? with
    | none => rw [hq] at q; cases q
    | some p => rw [hq] at q; exact ⟨p, rfl, (Option.some.inj q).symm⟩
  refine fill_loop (κ := κ) ((Walks.list (A := A'.in1) (by simpa using hA) _ l hneI items).toS) s.heap.objs.size
    hSf ks hisz hfew hval s.heap hk (none_of (Nat.le_refl _)) (fun b hb => none_of (by
      rw [List.mem_singleton.mp hb, Heap.size_push]
      exact Nat.le_succ _)) (by show A'.units + 1 < cLine; omega) (items.size - 0) 0 _ (by omega) (Nat.zero_le _)
    ⟨⟨_, Heap.get?_push_size _ rfl, rfl, rfl⟩, (hl1.push _)⟩ (fun b o e => Heap.get?_push_of_some _ (Heap.get?_push_of_some _ e))
    ⟨[], #[], 0, _, kset_new (Heap.get?_push_of_some _ hS), Taken.zero ks⟩ fun s' L es ep t hm hS' g' hkp => ?_
  obtain ⟨h', g2, d', tk', os'⟩ := s'
  obtain rfl : g2 = s.gens := hm.gens
  obtain rfl : d' = s.drawn := hm.drawn
  obtain rfl : os' = s.os := hm.os
  rw [hisz] at g'
  exact hR h' tk' ⟨L, es, ep, t, hS', g'⟩ hkp
/-- set(xs), xs a list of ints -/
theorem set_of_ints {l : Addr} {items : Array Value} (ns : List Int) {Q : Value → Shared → Prop} (hh : A.handled = none) (hl : s.heap.IsList l items) (hit : IntsAre items.toList ns) (hb : ns.length + 1 < scanBound)
    (h : ∀ (h' : Heap) (tk c : Nat), SetR w h' s.heap.objs.size (fun j => decide (j ∈ ns)) c → c ≤ ns.length → (∀ b o, s.heap.get? b = some o → h'.get? b = some o) → Q (.ref s.heap.objs.size) { s with heap := h', toks := tk }) :
    wpAny (model P w) A (call (.type "set") [.ref l]) Q E s := by
  have hisz : items.size = ns.length := by
    have q := IntsAre.length hit
    rw [Array.length_toList] at q
    exact q
  have hol : ∃ o, s.heap.get? l = some o := hl.elim fun o ho => ⟨o, ho.1⟩
  have hlS : l < s.heap.objs.size := hol.elim fun o ho => Heap.lt_size ho
  refine set_call (Res := fun h' => ∃ c, c ≤ ns.length ∧ SetR w h' s.heap.objs.size (fun j => decide (j ∈ ns)) c) hh hl (fun A' n' R hA uA en hR => ?_) (fun h' tk ⟨c, a1, a2⟩ hk' => h h' tk c a2 a1 hk')
  subst en
  have hl1 : (s.heap.push (newSetO w)).IsList l items := hl.elim fun o ho => ⟨o, Heap.get?_push_of_some _ ho.1, ho.2⟩
  have hS : (s.heap.push (newSetO w)).get? s.heap.objs.size = some (newSetO w) := Heap.get?_push_size _ rfl
  have hneI : l ≠ (s.heap.push (newSetO w)).objs.size := by
    rw [Heap.size_push]; exact Nat.ne_of_lt (Nat.lt_succ_of_lt hlS)
  have hSf : s.heap.objs.size ∉ [(s.heap.push (newSetO w)).objs.size, l] := by
    rw [Heap.size_push]; simp only [List.mem_cons, List.mem_singleton, List.not_mem_nil, or_false, not_or]
    exact ⟨Nat.ne_of_lt (Nat.lt_succ_self _), Nat.ne_of_gt hlS⟩
  have hval : ∀ (i : Nat) (v : Value), items[i]? = some v → ∃ k t, ns[i]? = some k ∧ v = .int k t := fun i v hv => by
    have hi : i < ns.length := by rw [← hisz]; exact (Array.getElem?_eq_some_iff.mp hv).1
    obtain ⟨t, e⟩ := PyProof.Rows.IntsAre.int_at hit i v (by rw [Array.getElem?_toList]; exact hv)
    refine ⟨ns[i], t, List.getElem?_eq_getElem hi, ?_⟩
    rw [e, List.getD_eq_getElem?_getD, List.getElem?_eq_getElem hi]
    rfl
  refine set_update_ints ((Walks.list (A := A'.in1) (by simpa using hA) _ l hneI items).toS) s.heap.objs.size
    hSf ns hisz hb hval (items.size - 0) 0 _ (by omega) (Nat.zero_le _)
    ⟨⟨_, Heap.get?_push_size _ rfl, rfl, rfl⟩, (hl1.push _)⟩ ⟨0, Nat.le_refl 0, setR_new_at (Heap.get?_push_of_some _ hS)⟩ fun s' c hm hc hS' => ?_
  obtain ⟨h', g2, d', tk', os'⟩ := s'
  obtain rfl : g2 = s.gens := hm.gens
  obtain rfl : d' = s.drawn := hm.drawn
  obtain rfl : os' = s.os := hm.os
  rw [hisz] at hc
  refine hR h' tk' ⟨c, hc, hS'⟩ fun b o e => hm.heap b o ?_ (Heap.get?_push_of_some _ (Heap.get?_push_of_some _ e))
  have hb0 : b < s.heap.objs.size := Heap.lt_size e
  rw [Heap.size_push]
  simp only [List.mem_cons, List.mem_singleton, List.not_mem_nil, or_false, not_or]
  exact ⟨Nat.ne_of_lt hb0, Nat.ne_of_lt (Nat.lt_succ_of_lt hb0)⟩
end
end KS

/-! Defs that may ask for repr: as the layer's defs, but nothing is being shown around them (no guard stands on the stack). -/
namespace GL
open PySem PySem.Spec PyProof.Rows L2
structure RoomG (k : Nat) (A : Around) : Prop where
  room : Room k A
  gd : A.guards = some []
theorem RoomG.mono {j k : Nat} {A : Around} (r : RoomG k A) (h : j ≤ k) : RoomG j A := ⟨r.room.mono h, r.gd⟩
theorem RoomG.deeper {k : Nat} {A : Around} (r : RoomG (k + 1) A) (env : Env) : RoomG k (A.deeper env) := ⟨r.room.deeper env, r.gd⟩
structure FnG (P : Program) (w : World) (K : PySem.W.Frag) (mg : Str → Option Value) (base : Heap) (CX : CXT) (k : Nat) (f : Addr) (fd : FuncData) (ps : List Str) (sp : Sp) : Prop where
  len : ∀ vs H Q E, sp vs H Q E → vs.length = ps.length
  run : ∀ (A : Around) (outer : List Env) (s : Shared) (H : Hp) (args : Args) (us : List Value) (vs : List V) (Q : VK) (E : XK), RoomG k A → Env0 P w K mg base A outer s H → BindsTo s fd args (ps.zip us) → Vals vs us → sp vs H Q E →
    codeAny (model P w) A (.call (.ref f) args) (CR CX outer P w H s Q E) s
section
variable {P : Program} {w : World} {K : PySem.W.Frag} {mg : Str → Option Value} {base : Heap} {CX : CXT} {k : Nat} {f : Addr} {fd : FuncData} {ps : List Str} {sp : Sp}
theorem FnG.mono {j : Nat} (F : FnG P w K mg base CX j f fd ps sp) (h : j ≤ k) : FnG P w K mg base CX k f fd ps sp := ⟨F.len, fun A outer s H args us vs Q E hr => F.run A outer s H args us vs Q E (hr.mono h)⟩
theorem FnG.of (F : FnOk P w K mg base CX k f fd ps sp) : FnG P w K mg base CX k f fd ps sp := ⟨F.len, fun A outer s H args us vs Q E hr => F.run A outer s H args us vs Q E hr.room⟩
theorem fn_ofG {name qual : Str} {params : Arguments} {body : List Stmt} {scope : Scope} {dV kV doc pm cdv ct oc : Value} {an od : Option Addr}
    {osl : Array (Option Value)} {N : List Str} (lk : K.lookup f = some ⟨oc, od, .func (PySem.W.fnOf name qual params body scope dV kV doc pm an cdv ct), osl⟩) (hcd : PySem.W.codeIn K cdv qual = true) (S : FnScope N ps scope)
    (len : ∀ vs H Q E, sp vs H Q E → vs.length = ps.length)
    (hbody : ∀ (A : Around) (outer : List Env) (s : Shared) (H : Hp) (vs : List V) (Q : VK) (E : XK), RoomG k (A.deeper (envOfC qual scope s.heap.objs.size f cdv)) → sp vs H Q E →
      ∃ t, PSs (cxOf CX P w K mg base N qual scope f cdv A outer s H E) body t ∧ t { nx := fun _ H' => Q .non H', rt := Q } (start N vs) H) :
    FnG P w K mg base CX (k + 1) f (PySem.W.fnOf name qual params body scope dV kV doc pm an cdv ct) ps sp := by
  refine ⟨len, fun A outer s H args us vs Q E hr e0 hb r hsp => ?_⟩
  have hl := len _ _ _ _ hsp
  have KX : K.In s.heap := e0.mod.kin.keeps fun b o e => (e0.bs b o e).1
  have lim : s.heap.NoLimit := e0.mod.nolimit.keeps fun b o e => (e0.bs b o e).1
  have hkind : ∀ y ∈ ps.zip us, scope.names.lookup y.1 = some .local ∨ (scope.names.lookup y.1 = some .cell ∧ ((cellsFrom (s.heap.objs.size + 1) scope.names []).lookup y.1).isSome = true) := by
    rintro ⟨n, v⟩ hy
    exact (S.par n (List.of_mem_zip hy).1).elim .inl fun q => .inr ⟨q, PySem.W.cellsFrom_some _ _ _ (.inl q)⟩
  refine codeAny_call_function hr.room.depth (KX _ _ lk) rfl S.co S.gen rfl (PySem.W.codeRec_of KX hcd) (hb _ _ _ _ ?_)
  refine wpAny_newFunctionEnv_cells S.kind hkind fun env he s1 x => ?_
  subst he
  refine ⟨lim.keeps x.toInCall.keep, codeAny_func ?_⟩
  obtain ⟨t, ht, hq⟩ := hbody A outer s H vs Q E (hr.deeper _) hsp
  have I : Inv (cxOf CX P w K mg base N qual scope f cdv A outer s H E) [] (start N vs) H s1 := inv_start S hr.room.hd e0 hl r x
  refine wpAny_mono (ht.run [] s1 (start N vs) H _ I hq) (fun fl s' hs => ?_) fun e s' hs => hs
  cases fl with
  | ret u =>
    obtain ⟨v, σ', H', J, rv, q⟩ := hs
    exact ⟨v, H', J.os, J.bare, J.base, J.hok, rv, q⟩
  | next =>
    obtain ⟨σ', H', J, q⟩ := hs
    exact ⟨V.non, H', J.os, J.bare, J.base, J.hok, rfl, q⟩
  | brk => exact hs.elim fun _ z => z.elim fun _ z => z.2.elim
  | cont => exact hs.elim fun _ z => z.elim fun _ z => z.2.elim
/-- as Fun.ok -/
theorem okG {x qual : Str} {st : Stmt} {N : List Str} (F : Fun K x qual st f fd) (S : FnScope N ps (defScope st)) (len : ∀ vs H Q E, sp vs H Q E → vs.length = ps.length)
    (hbody : ∀ (cdv : Value) (A : Around) (outer : List Env) (s : Shared) (H : Hp) (vs : List V) (Q : VK) (E : XK), RoomG k (A.deeper (envOfC qual (defScope st) s.heap.objs.size f cdv)) → sp vs H Q E →
      ∃ t, PSs (cxOf CX0 P w K mg base N qual (defScope st) f cdv A outer s H E).nox (defBody st) t ∧ t { nx := fun _ H' => Q .non H', rt := Q } (start N vs) H) : FnG P w K mg base CX0 (k + 1) f fd ps sp := by
  obtain ⟨oc, od, kV, doc, pm, an, cdv, ct, osl, rfl, lk, hcd⟩ := F.ex
  refine fn_ofG lk hcd S len fun A outer s H vs Q E hr hsp => ?_
  obtain ⟨t, h, q⟩ := hbody cdv A outer s H vs Q E hr hsp
  exact ⟨t, h.nox, q⟩
end
section
variable {X : Cx} {CX : CXT} {k : Nat} {f : Addr} {fd : FuncData} {ps ks : List Str} {sp : Sp} {dvs : List V} {ds : List Value} {E : XK} {x : Str} {p pos : Pos} {e : Expr} {es : List Expr} {t tk : TA} {kws : List Keyword} {g : List Value → List Value → List Value} {gV : List V → List V → List V}
theorem end_fn {pins : List (Addr × Obj)} {σ : L2.St} {H : Hp} {s s' : Shared} {Q : VK} {r : Result} (hx : Passes CX X E) (I : Inv X pins σ H s) (hq : CR CX X.stack X.prog X.w H s Q E r s') :
    match r with | .ok (.ret u) => EP X pins σ Q u s' | .ok _ => False | .error er => X.xe er s' := by
  cases r with
  | error er => exact hx pins σ H s er s' I hq
  | ok fl =>
    cases fl with
    | ret u => exact I.after hq
    | next => exact hq
    | brk => exact hq
    | cont => exact hq
theorem run_fnG {pins : List (Addr × Obj)} {σ : L2.St} {H : Hp} {s : Shared} {Q : VK} {us : List Value} {vs : List V} (F : FnG X.prog X.w X.K X.mg X.base CX k f fd ps sp) (hr : RoomG k X.A) (hb : Binds X.K fd ps ds) (hd : Vals dvs ds) (hx : Passes CX X E)
    (I : Inv X pins σ H s) (r : Vals vs us) (h : sp (vs ++ dvs) H Q E) : wpAny (model X.prog X.w) X.A (call (.ref f) us) (EP X pins σ Q) X.xe s := by
  have r2 : Vals (vs ++ dvs) (us ++ ds) := r.append hd
  have hl : (us ++ ds).length = ps.length := by rw [← r2.length]; exact F.len _ _ _ _ h
  refine wpAny_call (codeAny_mono (F.run X.A X.stack s H ⟨us, []⟩ (us ++ ds) (vs ++ dvs) Q E hr I.env0 (hb s us I.kIn hl) r2 h) fun r s' hq => ?_)
  have z := end_fn hx I hq
  cases r with
  | error er => exact z
  | ok fl => cases fl <;> exact z
/-- f(e, ..) -/
theorem pe_callG (F : FnG X.prog X.w X.K X.mg X.base CX k f fd ps sp) (hr : RoomG k X.A) (hg : Gl X x) (hm : X.mg x = some (.ref f)) (hk : PySem.W.keepIn X.K (.ref f) = true) (hb : Binds X.K fd ps ds) (hd : Vals dvs ds) (hx : Passes CX X E)
    (ha : PA X (e :: es) t) (hdb : (x == ("__debug__" : Str)) = false := by decide) (he : starEach (e :: es) X.env = (false, eval e X.env) :: starEach es X.env := by rfl) (hpl : (backTo pos (starEach es X.env)).any (·.1) = false := by rfl) :
    PE X (.Call (.Name x p) (e :: es) [] pos) (tCall sp dvs E t) := by
  refine ⟨fun pins s σ H Q I h => wpAny_Call_Name_kw (ld_glob I hg hm ?_ hdb)⟩
  exact PySem.W.callWith_K (h₀ := X.base) I.ok.mod.kin hk (thn (ha.run pos pins s σ H _ I h) fun us s1 ⟨vs, H1, I1, r, q⟩ => ⟨I1.kIn, run_fnG F hr hb hd hx I1 r q⟩) he hpl
/-- f(e, .., k = v, ..) -/
theorem pe_callKG (F : FnG X.prog X.w X.K X.mg X.base CX k f fd ps sp) (hr : RoomG k X.A) (hg : Gl X x) (hm : X.mg x = some (.ref f)) (hk : PySem.W.keepIn X.K (.ref f) = true) (hb : KBinds X.K fd ps ks g gV) (hx : Passes CX X E)
    (ha : PA X (e :: es) t) (hkw : PK X kws tk) (hall : (backToKw pos (keywordEach kws X.env)).all (·.1.isSome) = true := by rfl) (hks : (backToKw pos (keywordEach kws X.env)).filterMap (·.1) = ks := by rfl)
    (hdb : (x == ("__debug__" : Str)) = false := by decide) (he : starEach (e :: es) X.env = (false, eval e X.env) :: starEach es X.env := by rfl)
    (hpl : ((backTo pos (starEach (e :: es) X.env)).any (·.1) || (backToKw pos (keywordEach kws X.env)).any (·.1.isNone)) = false := by rfl) :
    PE X (.Call (.Name x p) (e :: es) kws pos) (tCallK sp gV E t tk) := by
  refine ⟨fun pins s σ H Q I h => wpAny_Call_Name_kw (ld_glob I hg hm ?_ hdb)⟩
  refine PySem.W.callWith_KW (h₀ := X.base) I.ok.mod.kin hk hall (thn (ha.run pos pins s σ H _ I h) fun us s1 ⟨vs, H1, I1, r, q⟩ => ?_) hpl he
  refine thn (hkw.run pos pins s1 σ H1 _ I1 q) fun ws s2 ⟨zs, H2, I2, rz, q2⟩ => ⟨I2.kIn, ?_⟩
  rw [hks]
  have r2 := hb.rel r rz
  have hl : (g us ws).length = ps.length := by rw [← r2.length]; exact F.len _ _ _ _ q2
  refine wpAny_call (codeAny_mono (F.run X.A X.stack s2 H2 ⟨us, ks.zip ws⟩ (g us ws) (gV vs zs) Q E hr I2.env0 (hb.to s2 us ws I2.kIn hl) r2 q2) fun r s' hq => ?_)
  have z := end_fn hx I2 hq
  cases r with
  | error er => exact z
  | ok fl => cases fl <;> exact z
end

/-- what the law leaves, its own call -/
theorem law_runG {P : Program} {w : World} {K : PySem.W.Frag} {mg mb : Str → Option Value} {CX : CXT} {k : Nat} {fa a : Addr} {fd : FuncData} {x : Str} {sp : Sp} {s₁ : Shared} {vs : List Value} {ns : List Int}
    (KX : K.In s₁.heap) (hns : s₁.heap.Ns mainGlobals mg) (hb : s₁.heap.Ns builtinsNs mb) (hbb : ∀ x : Str, x ≠ "__name__" → mb x = bootBuiltins x) (hlim : s₁.heap.NoLimit) (hg : s₁.gens = #[])
    (ha : s₁.heap.get? a = some { cls := .type "list", data := .seq vs.toArray }) (hi : IntsAre vs ns) (hl : ns.length ≤ sizeLine) (hr : Room k callerA)
    (F : ∀ base : Heap, K.In base → base.Ns mainGlobals mg → FnG P w K mg base CX k fa fd [x] sp) (hbind : ∀ (s : Shared) (u : Value), BindsTo s fd ⟨[u], []⟩ [(x, u)])
    (hsp : ∀ H : Hp, Only H → SqL K H a (ns.map V.int) → sp [.ref a] H (fun v _ => v = .bl true) fun _ _ _ => False)
    (hCX : ∀ H e s', CX [] H s₁ (fun _ _ _ => False) e s' → False) :
    codeAny (model P w) callerA (.call (.ref fa) ⟨[.ref a], []⟩) (fun r s' => r = .ok (.ret (.bool true)) ∧ OldK s₁.heap s'.heap ∧ s'.os = s₁.os ∧ AllBare s'.gens) s₁ := by
  have rv := vals_ints hi
  have lenV := hi.length
  have core : ∀ H : Hp, Only H → SqL K H a (ns.map V.int) → HOk P w H s₁.heap → (∀ b, H b ≠ none → b = a) → (H a ≠ none → K.lookup a = none) →
      codeAny (model P w) callerA (.call (.ref fa) ⟨[.ref a], []⟩) (fun r s' => r = .ok (.ret (.bool true)) ∧ OldK s₁.heap s'.heap ∧ s'.os = s₁.os ∧ AllBare s'.gens) s₁ := by
    intro H hO hS hok hA hK
    have only : ∀ {b : Addr} {u : HO}, H b = some u → b = a := fun {b u} q => hA b (by rw [q]; exact Option.some_ne_none u)
    have noA : ∀ {b : Addr} {o : Obj} {es : Array DictEntry} {ep : Nat}, s₁.heap.get? b = some o → o.data = .dict es ep → H b = none := fun {b o es ep} e d => by
      cases q : H b with
      | none => rfl
      | some u =>
        rw [only q, ha] at e
        cases e
        cases d
    have nsK : ∀ {b : Addr} {m : Str → Option Value}, s₁.heap.Ns b m → (hidT s₁.heap H).Ns b m := fun {b m} ⟨o, es, ep, e, d, r⟩ => ⟨o, es, ep, hidT_get e (noA e d), d, r⟩
    have hKb : K.In (hidT s₁.heap H) := fun b o e => hidT_get (KX b o e) (by
      cases q : H b with
      | none => rfl
      | some u =>
        have z := only q
        subst z
        rw [hK (by rw [q]; exact Option.some_ne_none u)] at e
        cases e)
    have hM : Mod K mg (hidT s₁.heap H) := ⟨hKb, nsK hns, ⟨mb, nsK hb, hbb⟩, let ⟨mc, h1, h2⟩ := hlim; ⟨mc, nsK h1, h2⟩⟩
    have e0 : Env0 P w K mg (hidT s₁.heap H) callerA [] s₁ H := ⟨rfl, hM, fun b o e => of_hidT e, Nat.le_of_eq (hidT_size _ _), trivial, fun b hb => absurd (show b ∈ ([] : List Addr) from hb) (by simp), hok, .of_eq hg⟩
    refine codeAny_mono ((F _ hKb (nsK hns)).run callerA [] s₁ H ⟨[.ref a], []⟩ [.ref a] [.ref a] _ _ ⟨hr, rfl⟩ e0 (hbind s₁ (.ref a)) (.cons rfl .nil) (hsp H hO hS)) fun r s' h => ?_
    cases r with
    | error e => exact (hCX H e s' h).elim
    | ok fl =>
      cases fl with
      | next => exact False.elim h
      | brk => exact False.elim h
      | cont => exact False.elim h
      | ret u =>
        obtain ⟨v, H', os, bare, un, hok', r', q⟩ := h
        obtain rfl : v = .bl true := q
        obtain rfl : u = Value.bool true := r'
        refine ⟨rfl, OldK.of_keep fun b o e => ?_, os, bare⟩
        cases q : H b with
        | none => exact un.keep b o e q (by intro z; exact absurd (show b ∈ ([] : List Addr) from z) (by simp)) (by simp)
        | some u =>
          rcases hO b with z | ⟨ob, xs, z⟩
          · rw [q] at z; cases z
          · have z2 := un.frzs b ob _ z
            obtain ⟨e1, _⟩ := hok b _ z
            obtain ⟨e2, _⟩ := hok' b _ z2
            rw [e] at e1; cases e1
            exact e2
  cases hk : K.lookup a with
  | some o =>
    have e := KX a o hk
    rw [ha] at e
    cases e
    refine core (fun _ => none) (fun _ => .inl rfl) (.inr ⟨_, vs.toArray, _, hk, rfl, rfl, rfl, by rw [List.size_toArray, lenV]; exact hl, by simpa using rv⟩) (fun b u z => by have z' : (none : Option HO) = some u := z; cases z') (fun b z => absurd rfl z) fun z => absurd rfl z
  | none =>
    have at_a : ∀ (b : Addr) (u : HO), (if b = a then some (HO.frz { cls := .type "list", data := .seq vs.toArray } (.lst (ns.map V.int))) else none) = some u → b = a ∧ u = HO.frz { cls := .type "list", data := .seq vs.toArray } (.lst (ns.map V.int)) := fun b u z => by
      by_cases hb : b = a
      · rw [if_pos hb] at z
        exact ⟨hb, (Option.some.inj z).symm⟩
      · rw [if_neg hb] at z
        cases z
    refine core (fun b => if b = a then some (.frz { cls := .type "list", data := .seq vs.toArray } (.lst (ns.map V.int))) else none) (fun b => ?_) (.inl (.inr ⟨{ cls := .type "list", data := .seq vs.toArray }, if_pos rfl⟩)) (fun b u z => ?_) (fun b z => ?_) fun _ => hk
    · by_cases hb : b = a
      · exact .inr ⟨_, _, if_pos hb⟩
      · exact .inl (if_neg hb)
    · obtain ⟨rfl, rfl⟩ := at_a b u z
      exact ⟨ha, by rw [List.length_map]; exact hl, vs, _, rv, ha⟩
    · cases q : (if b = a then some (HO.frz { cls := .type "list", data := .seq vs.toArray } (.lst (ns.map V.int))) else none) with
      | none => exact absurd q z
      | some u => exact (at_a b u q).1

/-- the goal that k_head leaves (case hc), from the law's promise -/
theorem walk_ofG {l : PySem.W.OpenLaw} {n k : Nat} {q : Program} {loose : List Str} {XP : (Str → Option Value) → Heap → Prop} {YP : World → Heap → Prop} {d : DefRec} {K : Params → PySem.W.Frag} {CX : World → CXT} {sp : World → Sp} {x : Str}
    (hn : l.most = some n) (hn2 : n ≤ sizeLine) (hdf : d.params.defaults = []) (hr : Room k callerA)
    (hY : ∀ (w : World) (h : Heap), YP w h → (K w.params).In h)
    (F : ∀ (w : World) (mg : Str → Option Value) (fa : Addr) (h : Heap), (K w.params).In h → h.Ns mainGlobals mg → mg d.name = some (.ref fa) →
      ∃ fd : FuncData, (∀ (s : Shared) (u : Value), BindsTo s fd ⟨[u], []⟩ [(x, u)]) ∧
        ∀ base : Heap, (K w.params).In base → base.Ns mainGlobals mg → FnG l.prog w (K w.params) mg base (CX w) k fa fd [x] (sp w))
    (hsp : ∀ (w : World) (H : Hp) (a : Addr) (ns : List Int), ns.length ≤ n → Only H → SqL (K w.params) H a (ns.map V.int) → sp w [.ref a] H (fun v _ => v = .bl true) fun _ _ _ => False)
    (hCX : ∀ (w : World) (H : Hp) (s : Shared) (e : Value) (s' : Shared), CX w [] H s (fun _ _ _ => False) e s' → False) :
    PySem.W.WalkO q loose XP YP l.row.toRowW d [] (fun f vs => PySem.call f vs) := by
  refine Att.attach_call hn hdf fun w s₀ s₁ mg mb fa o pm cd doc a vs ns G Y ho hd hcd hmg hobj hints hlen hg => ?_
  have KX := hY w _ Y
  obtain ⟨fd, hb, hF⟩ := F w mg fa _ KX G.T.g hmg
  exact law_runG KX G.T.g G.T.b G.T.builtins G.T.nolimit hg hobj hints (Nat.le_trans hlen hn2) hr hF hb (fun H hO hS => hsp w H a ns hlen hO hS) fun H e s' => hCX w H s₁ e s'
end GL

/-! Rules of the layer over data: repr; set(list of flat tuples), set(list of ints), sorted of such sets; < of tuples. -/
namespace KS
open PySem PySem.Spec PyProof.Rows L2
def atomD : Key → PyData
  | .inl i => .int i
  | .inr x => .str x
/-- a flat tuple as data -/
def encK (k : List Key) : PyData := .tuple (k.map atomD)
section
variable {P : Program} {w : World} {A : Around} {E : Value → Shared → Prop} {s : Shared}
theorem reads_items {h : Heap} : ∀ {k : List Key} {vs : List Value}, ItemsAre (mixKind P w) k vs → ReadsAll h vs (k.map atomD) []
  | _, _, .nil => .nil
  | _, _, @ItemsAre.cons _ _ _ _ _ k v ks vs h1 t => by
    have hv : ∃ as, Reads h v (atomD k) as ∧ as = [] := by
      rcases keyIs_shape (show keyIs k v = true from h1) with ⟨i, tk, rfl, rfl⟩ | ⟨x, tk, rfl, rfl⟩
      · exact ⟨_, Reads.int i tk, rfl⟩
      · exact ⟨_, Reads.str x tk, rfl⟩
    obtain ⟨as, r, rfl⟩ := hv
    exact ReadsAll.cons r (reads_items t)
theorem reads_key {h : Heap} {k : List Key} {b : Addr} (x : IsTupleKey (mixKind P w) h k b) : Reads h (.ref b) (encK k) [] := by
  obtain ⟨o, its, n, ho, hc, hd, hi⟩ := x
  exact Reads.tuple ho hc hd (reads_items hi)
theorem depth_atoms : ∀ k : List Key, PyData.depthAll (k.map atomD) = 0
  | [] => by simp [PyData.depthAll]
  | x :: k => by
    rw [List.map_cons, PyData.depthAll, depth_atoms k]
    cases x <;> simp [atomD, PyData.depth]
theorem depth_key (k : List Key) : (encK k).depth = 1 := by
  unfold encK
  rw [PyData.depth, depth_atoms]
theorem each_refs : ∀ (L : List (Addr × List Key)), W.EachIs (fun v (p : Addr × List Key) => v = Value.ref p.1) (L.map fun p => Value.ref p.1) L
  | [] => .nil
  | p :: L => .cons rfl (each_refs L)
theorem refs_each : ∀ {vs : List Value} {L : List (Addr × List Key)}, W.EachIs (fun v (p : Addr × List Key) => v = Value.ref p.1) vs L → vs = L.map fun p => Value.ref p.1
  | _, _, .nil => rfl
  | _, _, .cons h t => by rw [h, refs_each t]; rfl
theorem dataLe_total {β : Type} (k : β → PyData) : W.TotalLe (W.dataLe false k) := W.sortLe_total _ _ _
theorem nodup_map {α β : Type} {f : α → β} {l : List α} (h : (l.map f).Nodup) : l.Nodup := List.Pairwise.of_map f (fun _ _ hne e => hne (congrArg f e)) h

/-- sorted(s), s a set of flat tuples of one shape -/
theorem sorted_kset {a : Addr} {L : List (Addr × List Key)} {es : Array (Int × Value)} {ep : Nat} {t : SetTable} {Q : Value → Shared → Prop} (R : KSetAt (mix P w) s.heap a L es ep t) (hh : A.handled = none) (hu : A.units + 64 < cLine)
    (hal : ∀ p ∈ L, ∀ q ∈ L, W.alike (encK p.2) (encK q.2) = true) (hne : ∀ p ∈ L, p.2 ≠ [])
    (hQ : ∀ s' p (out : Array Value) (c : Nat) (L' : List (Addr × List Key)), (∀ b o, s.heap.get? b = some o → s'.heap.get? b = some o) → s'.gens = s.gens → s'.os = s.os → s.heap.objs.size ≤ p →
      s'.heap.get? p = some (seqObj "list" out c) → out.toList = L'.map (fun q => Value.ref q.1) → L'.Perm L → L'.Pairwise (fun q r => W.dataLt (encK r.2) (encK q.2) = false) → Q (.ref p) s') :
    wpAny (model P w) A (call (.builtin "sorted") [.ref a]) Q E s := by
  obtain ⟨o, ho, hex, hd⟩ := R.obj
  have hsz := R.size
  have hfew := R.few
  refine Calls.call_function_entry kind_sorted plain_sorted entry_sorted (args_sorted1 _) ?_
  unfold Builtin.«sorted»
  refine wpAny_bind (m := checkCount "sorted" 1 1 _) (wpAny_pure ?_)
  refine wpAny_bind (collect_set (A := A.in1) hh ⟨o, ho, hex.1, hd⟩ R.fits (by unfold scanBound; omega) R.tab.ris R.led fun s1 vs k1 hz g1 o1 pm => ?_)
  have hes : es.toList.map (·.2) = L.map fun q => Value.ref q.1 := by
    rw [R.rows]
    unfold krows
    rw [List.map_map]
    rfl
  rw [hes] at pm
  have ord : ∀ vs : List Value, (∀ v ∈ vs, ∃ q ∈ L, v = Value.ref q.1) → ∃ L1 : List (Addr × List Key), vs = L1.map (fun q => Value.ref q.1) ∧ ∀ q ∈ L1, q ∈ L := by
    intro vs
    induction vs with
    | nil => exact fun _ => ⟨[], rfl, fun q hq => (nomatch hq)⟩
    | cons v vs ih =>
      intro hv
      obtain ⟨q, hq, e⟩ := hv v List.mem_cons_self
      obtain ⟨L1, e1, hs⟩ := ih fun u hu => hv u (List.mem_cons_of_mem _ hu)
      refine ⟨q :: L1, by rw [List.map_cons, e, e1], fun r hr => ?_⟩
      rcases List.mem_cons.mp hr with rfl | z
      · exact hq
      · exact hs r z
  have one : ∀ q ∈ L, ∀ r ∈ L, q.1 = r.1 → q = r := fun q hq r hr e => by
    have a1 := R.mem q hq
    have a2 := R.mem r hr
    rw [e] at a1
    exact Prod.ext e ((mix P w).inj a1 a2)
  obtain ⟨L1, e1, hs1⟩ := ord vs fun v hv => by
    obtain ⟨q, hq, e⟩ := List.mem_map.mp (pm.mem_iff.mp hv)
    exact ⟨q, hq, e.symm⟩
  have pL : L1.Perm L := by
    rw [e1] at pm
    have nL : L.Nodup := nodup_map R.nd
    have nref : (L.map fun q => Value.ref q.1).Nodup := List.pairwise_map.mpr (List.Pairwise.imp_of_mem (fun {q r} hq hr hne e => by
      injection e with e
      exact hne (one q hq r hr e)) nL)
    have n1 : L1.Nodup := nodup_map (pm.nodup_iff.mpr nref)
    refine (List.perm_ext_iff_of_nodup n1 nL).mpr fun q => ⟨hs1 q, fun hq => ?_⟩
    obtain ⟨r, hr, e⟩ := List.mem_map.mp (pm.mem_iff.mpr (List.mem_map.mpr ⟨q, hq, rfl⟩))
    injection e with e
    rw [← one r (hs1 r hr) q hq e]
    exact hr
  have hvl : vs.length ≤ 76 := by rw [pm.length_eq, List.length_map]; exact hfew
  refine wpAny_bind (wpAny_newList ?_ (by rw [sizeLine_eq]; omega))
  have hoL : (s1.heap.push (seqObj "list" vs.toArray 0)).get? s1.heap.objs.size = some (seqObj "list" vs.toArray 0) := Heap.get?_push_size _ rfl
  have hL1 : L1.length ≤ 76 := by rw [pL.length_eq]; exact hfew
  have each : W.EachIs (fun v (p : Addr × List Key) => ∃ as, Reads (s1.heap.push (seqObj "list" vs.toArray 0)) v (encK p.2) as ∧ s1.heap.objs.size ∉ as) vs L1 := by
    rw [e1]
    have key : ∀ M : List (Addr × List Key), (∀ q ∈ M, q ∈ L) → W.EachIs (fun v (p : Addr × List Key) => ∃ as, Reads (s1.heap.push (seqObj "list" (L1.map fun q => Value.ref q.1).toArray 0)) v (encK p.2) as ∧ s1.heap.objs.size ∉ as) (M.map fun p => Value.ref p.1) M := by
      intro M
      induction M with
      | nil => exact fun _ => .nil
      | cons p M ih =>
        intro hM
        refine .cons ⟨[], reads_key (P := P) (w := w) ((mix P w).keep (R.mem p (hM p List.mem_cons_self)) fun b o _ _ hb _ => Heap.get?_push_of_some _ (k1 b o hb)), List.not_mem_nil⟩ (ih fun q hq => hM q (List.mem_cons_of_mem _ hq))
    exact key L1 hs1
  refine wpAny_bind (wpAny_holding (W.list_sort_data (s := { s1 with heap := s1.heap.push (seqObj "list" vs.toArray 0) }) (bs := L1) (enc := fun p => encK p.2) (R := fun v p => v = Value.ref p.1) hoL (by rw [e1]; exact each_refs L1) each ?_ ?_ (by rw [sizeLine_eq]; omega) (fun b _ => ?_) fun out hlen hout => ?_))
  · intro d hd d' hd'
    obtain ⟨p, hp, rfl⟩ := List.mem_map.mp hd
    obtain ⟨q, hq, rfl⟩ := List.mem_map.mp hd'
    exact hal p (hs1 p hp) q (hs1 q hq)
  · refine .inl fun d hd => ?_
    obtain ⟨p, hp, rfl⟩ := List.mem_map.mp hd
    cases e : p.2 with
    | nil => exact absurd e (hne p (hs1 p hp))
    | cons x r =>
      refine ⟨atomD x, r.map atomD, ?_⟩
      unfold encK
      rw [List.map_cons]
  · rw [depth_key]
    show A.units + 1 + 1 + 1 < cLine
    omega
  · obtain ⟨c, hc⟩ := sortedHeap_at (vs := vs) (out := out.toArray) hoL
    have eo := refs_each hout
    refine wpAny_pure ⟨_, rfl, hQ _ s1.heap.objs.size out.toArray c (L1.mergeSort (W.dataLe false fun p => encK p.2)) (fun b u e => ?_) g1 o1 hz hc (by simpa using eo) ((List.mergeSort_perm _ _).trans pL) ?_⟩
    · have q := k1 b u e
      have hlt := Heap.lt_size q
      show (sortedHeap (s1.heap.push (seqObj "list" vs.toArray 0)) s1.heap.objs.size vs out.toArray).get? b = some u
      rw [sortedHeap_old (Nat.ne_of_lt hlt) (by rw [size_push']; exact Nat.lt_succ_of_lt hlt)]
      exact Heap.get?_push_of_some _ q
    · refine (W.sort_pairwise (dataLe_total fun p : Addr × List Key => encK p.2) L1).imp fun {p q} h => ?_
      have h' : (!W.dataLt (encK q.2) (encK p.2)) = true := h
      simpa using h'
end

/-- the set at a, its members aside -/
structure KSet0 (P : Program) (w : World) (h : Heap) (a : Addr) (L : List (Addr × List Key)) : Prop where
  ex : ∃ (es : Array (Int × Value)) (ep : Nat) (t : SetTable), (∃ o, h.get? a = some o ∧ o.ExactSet ∧ o.data = .set es ep t) ∧ es.toList = krows (mix P w) L ∧ TabOk t (L.map fun p => (mix P w).hash p.2) ∧ (L.map (·.2)).Nodup ∧
    (w.params.followText "set-order" = true ∨ t.led = true) ∧ L.length * 5 < t.mask * 3 ∧ L.length ≤ 76
def KSetO (P : Program) (w : World) (a : Addr) (L : List (Addr × List Key)) : HO := .ext fun h => KSet0 P w h a L
theorem kset0_of {P : Program} {w : World} {h : Heap} {a : Addr} {L : List (Addr × List Key)} {es : Array (Int × Value)} {ep : Nat} {t : SetTable} (R : KSetAt (mix P w) h a L es ep t) : KSet0 P w h a L :=
  ⟨es, ep, t, R.obj, R.rows, R.tab, R.nd, R.led, R.room, R.few⟩
theorem kset0_full {P : Program} {w : World} {h : Heap} {a : Addr} {L : List (Addr × List Key)} (R : KSet0 P w h a L) (ht : ∀ p ∈ L, (mix P w).is h p.2 p.1) : ∃ es ep t, KSetAt (mix P w) h a L es ep t := by
  obtain ⟨es, ep, t, h1, h2, h3, h4, h5, h6, h7⟩ := R.ex
  exact ⟨es, ep, t, h1, h2, h3, h4, ht, h5, h6, h7⟩
theorem ksetO_new {P : Program} {w : World} {H : Hp} {h : Heap} {a : Addr} {L : List (Addr × List Key)} (R : KSet0 P w h a L) : ObjOk P w H h a (KSetO P w a L) := by
  have ⟨es, ep, t, ⟨o, ho, r⟩, q⟩ := R.ex
  refine ⟨R, ⟨o, ho⟩, fun h1 h2 p k => ?_⟩
  have ⟨es', ep', t', ⟨o', ho', r'⟩, q'⟩ := KSet0.ex p
  exact ⟨es', ep', t', ⟨o', k o' ho', r'⟩, q'⟩
theorem kItems {P : Program} {w : World} : ∀ {k : List Key} {us : List Value}, Vals (k.map kV) us → ItemsAre (mixKind P w) k us
  | [], _, .nil => .nil
  | .inl n :: k, _, .cons r t => by
    obtain ⟨tk, rfl⟩ := r
    exact .cons (keyIs_int n tk) (kItems t)
  | .inr x :: k, _, .cons r t => by
    obtain ⟨tk, rfl⟩ := r
    exact .cons (keyIs_str x tk) (kItems t)
theorem kRefs : ∀ {ks : List (Addr × List Key)} {us : List Value}, Vals (ks.map fun p => V.ref p.1) us → us = ks.map fun p => Value.ref p.1
  | [], _, .nil => rfl
  | p :: ks, _, .cons r t => by
    cases r
    rw [kRefs t]
    rfl
theorem kVals : ∀ (ks : List (Addr × List Key)), Vals (ks.map fun p => V.ref p.1) (ks.map fun p => Value.ref p.1)
  | [] => .nil
  | p :: ks => .cons rfl (kVals ks)
section
variable {X : Cx}
theorem inv_key {pins : List (Addr × Obj)} {σ : L2.St} {H : Hp} {s : Shared} {b : Addr} {k : List Key} (I : L2.Inv X pins σ H s) (h : SqT X.K H b (k.map kV)) : IsTupleKey (mixKind X.prog X.w) s.heap k b := by
  obtain ⟨its, r, ⟨o, ho, hc, n, hd⟩, _⟩ := I.tuple h
  exact ⟨o, its.toArray, n, ho, hc, hd, by simpa using kItems r⟩
/-- set(xs), xs a list of flat tuples -/
def rSetK (K : PySem.W.Frag) (P : Program) (w : World) : List V → Hp → VK → Prop := fun xs H Q => ∃ (l : Addr) (ks : List (Addr × List Key)), xs = [V.ref l] ∧ SqL K H l (ks.map fun p => V.ref p.1) ∧ (∀ p ∈ ks, SqT K H p.1 (p.2.map kV)) ∧ ks.length ≤ 76 ∧
  ∀ a L, H a = none → (∀ p ∈ L, p ∈ ks) → (∀ p ∈ ks, p.2 ∈ L.map (·.2)) → (L.map (·.2)).Nodup → Q (.ref a) (upd H a (KSetO P w a L))
theorem cr_setK (hc : X.calm = true) (hu : X.A.units + 64 < cLine) : CallR X (.type "set") (rSetK X.K X.prog X.w) := by
  intro pins s σ H xs us Q I r h
  obtain ⟨l, ks, rfl, hl, hk, hf, q⟩ := h
  rw [Vals.ref1 r]
  obtain ⟨its, rv, pl, hz⟩ := I.list hl
  have hn : H s.heap.objs.size = none := I.hok.fresh (Nat.le_refl _)
  refine set_of_list (κ := mix X.prog X.w) ks (I.ok.hd hc) pl.isList (by simpa using kRefs rv) (fun p hp => inv_key I (hk p hp)) hf (by omega) fun h' tk L es ep t R g k => ?_
  refine ⟨.ref s.heap.objs.size, upd H s.heap.objs.size (KSetO X.prog X.w s.heap.objs.size L), I.laid (t' := tk) k (Nat.le_refl _) (ksetO_new (kset0_of R)), rfl, q _ L hn (fun p hp => List.mem_of_mem_take (g.sub p hp)) (fun p hp => ?_) R.nd⟩
  exact g.all p (by rw [List.take_length]; exact hp)
/-- set(xs), xs a list of ints -/
def rSetI (K : PySem.W.Frag) (w : World) : List V → Hp → VK → Prop := fun xs H Q => ∃ (l : Addr) (ns : List Int), xs = [V.ref l] ∧ SqL K H l (ns.map V.int) ∧ ns.length ≤ 1000 ∧
  ∀ a c, H a = none → c ≤ ns.length → Q (.ref a) (upd H a (SetO w a (fun j => decide (j ∈ ns)) c))
theorem cr_setI (hc : X.calm = true) : CallR X (.type "set") (rSetI X.K X.w) := by
  intro pins s σ H xs us Q I r h
  obtain ⟨l, ns, rfl, hl, hf, q⟩ := h
  rw [Vals.ref1 r]
  obtain ⟨its, rv, pl, hz⟩ := I.list hl
  have hn : H s.heap.objs.size = none := I.hok.fresh (Nat.le_refl _)
  refine set_of_ints (P := X.prog) (w := X.w) ns (I.ok.hd hc) pl.isList (by simpa using ints_of_vals rv) (by unfold scanBound; omega) fun h' tk c R hc' k => ?_
  exact ⟨.ref s.heap.objs.size, upd H s.heap.objs.size (SetO X.w s.heap.objs.size (fun j => decide (j ∈ ns)) c), I.laid (t' := tk) k (Nat.le_refl _) (setO_new R), rfl, q _ c hn hc'⟩
/-- sorted(s), s a set of flat tuples of one shape -/
def rSortedK (K : PySem.W.Frag) (P : Program) (w : World) : List V → Hp → VK → Prop := fun vs H Q => ∃ (a : Addr) (L : List (Addr × List Key)), vs = [V.ref a] ∧ H a = some (KSetO P w a L) ∧ (∀ p ∈ L, SqT K H p.1 (p.2.map kV)) ∧
  (∀ p ∈ L, ∀ q ∈ L, W.alike (encK p.2) (encK q.2) = true) ∧ (∀ p ∈ L, p.2 ≠ []) ∧
  ∀ (L' : List (Addr × List Key)) (p : Addr), L'.Perm L → (L'.map (·.2)).Nodup → L'.length ≤ 76 → L'.Pairwise (fun q r => W.dataLt (encK r.2) (encK q.2) = false) → H p = none → Q (.ref p) (upd H p (.lst (L'.map fun q => V.ref q.1)))
theorem cr_sortedK (hc : X.calm = true) (hu : X.A.units + 64 < cLine) : CallR X (.builtin "sorted") (rSortedK X.K X.prog X.w) := by
  intro pins s σ H vs us Q I r h
  obtain ⟨a, L, rfl, ha, hk, hal, hne, q⟩ := h
  have R0 : KSet0 X.prog X.w s.heap a L := (I.hok a _ ha).1
  obtain ⟨es, ep, t, R⟩ := kset0_full R0 fun p hp => inv_key I (hk p hp)
  rw [Vals.ref1 r]
  refine sorted_kset R (I.ok.hd hc) hu hal hne fun s' p out c L' k g o hp hg hout pm pw => ?_
  have hfew : L'.length ≤ 76 := by rw [pm.length_eq]; exact R.few
  have hlen : (L'.map fun q => V.ref q.1).length ≤ sizeLine := by rw [List.length_map, sizeLine_eq]; omega
  have hn : H p = none := I.hok.fresh hp
  have hv : Vals (L'.map fun q => V.ref q.1) out.toList := by rw [hout]; exact kVals L'
  have J : L2.Inv X pins σ (upd H p (.lst (L'.map fun q => V.ref q.1))) { s with heap := s'.heap, gens := s'.gens, drawn := s'.drawn, toks := s'.toks } :=
    I.call (ch := []) (Un.laid k hp hn) (I.hok.laid k hp ⟨hlen, out.toList, c, hv, hg⟩) (by rw [g]; exact I.bare) (fun _ z => nomatch z)
  have e : s' = { s with heap := s'.heap, gens := s'.gens, drawn := s'.drawn, toks := s'.toks } := by
    cases s'
    cases s
    cases o
    rfl
  rw [e]
  exact ⟨.ref p, _, J, rfl, q L' p pm ((pm.map (·.2)).nodup_iff.mpr R.nd) hfew pw hn⟩

/-! ### repr -/
mutual
theorem noDict_dp {K : PySem.W.Frag} {H : Hp} : ∀ (d : PyData) (v : V), Dp K H v d → d.hasDict = false
  | .none, _, _ => by simp [PyData.hasDict]
  | .bool _, _, _ => by simp [PyData.hasDict]
  | .int _, _, _ => by simp [PyData.hasDict]
  | .str _, _, _ => by simp [PyData.hasDict]
  | .list ds, _, h => by
    cases h with
    | lst _ ha => rw [PyData.hasDict]; exact noDict_all ds _ ha
  | .tuple ds, _, h => by
    cases h with
    | tup _ ha => rw [PyData.hasDict]; exact noDict_all ds _ ha
  | .dict _, _, h => by cases h
theorem noDict_all {K : PySem.W.Frag} {H : Hp} : ∀ (ds : List PyData) (vs : List V), DpAll K H vs ds → PyData.hasDictAll ds = false
  | [], _, _ => by simp [PyData.hasDictAll]
  | d :: ds, _, h => by
    cases h with
    | cons h1 h2 => rw [PyData.hasDictAll, noDict_dp d _ h1, noDict_all ds _ h2]; rfl
end
/-- repr(x), x a list or tuple of data -/
def rRepr (K : PySem.W.Frag) : List V → Hp → VK → Prop := fun xs H Q => ∃ (a : Addr) (d : PyData), xs = [.ref a] ∧ Dp K H (.ref a) d ∧ d.showable = true ∧ d.depth ≤ 60 ∧ d.shown.length ≤ sizeLine ∧ Q (.str d.shown) H
theorem cr_repr (hg : X.A.guards = some []) (hu : X.A.units + 64 < cLine) : CallR X (.builtin "repr") (rRepr X.K) := by
  intro pins s σ H xs us Q I r h
  obtain ⟨a, d, rfl, hd, hs, hdp, hz, q⟩ := h
  rw [Vals.ref1 r]
  obtain ⟨as, rd⟩ := Dp.reads I d (.ref a) (.ref a) hd rfl
  exact repr_of_reads' rd hs (PyData.noDict_hsm (noDict_dp d _ hd)) hg (by omega) (fun _ _ e => e) (fun h' u tk k => ⟨.str d.shown, H, I.kept (t' := tk) k, ⟨u, rfl⟩, q⟩) hz
/-- a < b of data of one shape -/
def rLtD (K : PySem.W.Frag) : R2 := fun x y H Q => ∃ d e, Dp K H x d ∧ Dp K H y e ∧ W.alike d e = true ∧ d ≠ .none ∧ d.depth ≤ 60 ∧ Q (.bl (W.dataLt d e)) H
end
end KS

/-! What all laws share: calls of defs by their promise; the deck of numbers that is drawn from. -/
namespace LB
open PySem PySem.Spec PyProof.Rows L2 KS GL
/-- the def named x stands and keeps its promise -/
structure Has (P : Program) (w : World) (K : PySem.W.Frag) (mg : Str → Option Value) (base : Heap) (x : Str) (k : Nat) (ps : List Str) (sp : Sp) : Prop where
  ex : ∃ f fd, FnOk P w K mg base CX0 k f fd ps sp ∧ mg x = some (.ref f) ∧ PySem.W.keepIn K (.ref f) = true ∧ Binds K fd ps []
section
variable {X : Cx} {x y : Str} {k : Nat} {ps : List Str} {sp : Sp} {e : Expr} {es : List Expr} {t : TA} {p pos kpos : Pos} {te : TE}
theorem pe_has (h : Has X.prog X.w X.K X.mg X.base x k ps sp) (hr : Room k X.A) (hg : Gl X x) (ha : PA X (e :: es) t) (hdb : (x == ("__debug__" : Str)) = false := by decide)
    (he : starEach (e :: es) X.env = (false, eval e X.env) :: starEach es X.env := by rfl) (hpl : (backTo pos (starEach es X.env)).any (·.1) = false := by rfl) : PE X (.Call (.Name x p) (e :: es) [] pos) (tCall sp [] E0 t) := by
  obtain ⟨f, fd, F, hm, hk, hb⟩ := h.ex
  exact pe_call F hr hg hm hk hb .nil pass0 ha hdb he hpl
theorem pe_has0 (h : Has X.prog X.w X.K X.mg X.base x k ps sp) (hr : Room k X.A) (hg : Gl X x) (hdb : (x == ("__debug__" : Str)) = false := by decide) : PE X (.Call (.Name x p) [] [] pos) (tCall sp [] E0 tNil) := by
  obtain ⟨f, fd, F, hm, hk, hb⟩ := h.ex
  exact pe_call0 F hr hg hm hk hb .nil pass0 hdb
/-- .. by the name of its one parameter, too -/
structure HasKw (P : Program) (w : World) (K : PySem.W.Frag) (mg : Str → Option Value) (base : Heap) (x : Str) (k : Nat) (y : Str) (sp : Sp) : Prop where
  ex : ∃ f fd, FnOk P w K mg base CX0 k f fd [y] sp ∧ mg x = some (.ref f) ∧ PySem.W.keepIn K (.ref f) = true ∧ ∀ (s : Shared) (u : Value), BindsTo s fd ⟨[], [(y, u)]⟩ [(y, u)]
def tCallKw (sp : Sp) (te : TE) : TE := fun σ H Q => te σ H fun v H1 => sp [v] H1 Q E0
theorem pe_hasKw (h : HasKw X.prog X.w X.K X.mg X.base x k y sp) (hr : Room k X.A) (hg : Gl X x) (ha : PE X e te) (hdb : (x == ("__debug__" : Str)) = false := by decide)
    (hall : (backToKw pos (keywordEach [⟨some y, e, kpos⟩] X.env)).all (·.1.isSome) = true := by rfl) (hks : (backToKw pos (keywordEach [⟨some y, e, kpos⟩] X.env)).filterMap (·.1) = [y] := by rfl)
    (hpl : ((backTo pos (starEach [] X.env)).any (·.1) || (backToKw pos (keywordEach [⟨some y, e, kpos⟩] X.env)).any (·.1.isNone)) = false := by rfl) :
    PE X (.Call (.Name x p) [] [⟨some y, e, kpos⟩] pos) (tCallKw sp te) := by
  obtain ⟨f, fd, F, hm, hk, hb⟩ := h.ex
  refine ⟨fun pins s σ H Q I h => wpAny_Call_Name_kw (ld_glob I hg hm ?_ hdb)⟩
  refine PySem.W.callWith_KW0 (h₀ := X.base) I.ok.mod.kin hk hall ?_ hpl
  refine thn ((pk_cons ha pk_nil).run pos pins s σ H (fun vs H1 => sp vs H1 Q E0) I ?_) fun ws s2 ⟨zs, H2, I2, rz, q2⟩ => ⟨I2.kIn, ?_⟩
  · exact h
  · rw [hks]
    have hl : zs.length = 1 := F.len _ _ _ _ q2
    obtain ⟨v, rfl⟩ : ∃ v, zs = [v] := List.length_eq_one_iff.mp hl
    cases rz with
    | cons r1 r2 =>
      cases r2
      refine wpAny_call (codeAny_mono (F.run X.A X.stack s2 H2 ⟨[], [(y, _)]⟩ _ [v] Q E0 hr I2.env0 (hb s2 _) (.cons r1 .nil) q2) fun r s' hq => ?_)
      have z := end_fn pass0 I2 hq
      cases r with
      | error er => exact z
      | ok fl => cases fl <;> exact z
end
end LB

/-! Dicts with int keys as functions; a dict comprehension over any walk; d != {}. -/
namespace LB
open PySem PySem.Spec PyProof.Rows L2 KS GL
/-- a dict of int keys is the function f -/
structure DM (kvs : List (Key × V)) (f : Int → Option V) : Prop where
  val : ∀ s, valV kvs (Sum.inl s : Key) = f s
  nd : (kvs.map (·.1)).Nodup
  isI : ∀ p ∈ kvs, ∃ s : Int, p.1 = Sum.inl s
theorem DM.nil : DM [] (fun _ => none) := ⟨fun _ => rfl, List.nodup_nil, fun _ h => (nomatch h)⟩
theorem keys_putK {kvs : List (Key × V)} {k : Key} {v x : V} (h : valV kvs k = some x) : (putK kvs k v).map (·.1) = kvs.map (·.1) := by
  unfold putK
  rw [valV_any, h, if_pos (show (some x).isSome = true from rfl), List.map_map]
  refine List.map_congr_left fun p _ => ?_
  show (if p.1 = k then (p.1, v) else p).1 = p.1
  split <;> rfl
theorem DM.put {kvs : List (Key × V)} {f : Int → Option V} (d : DM kvs f) (s : Int) (v : V) : DM (putK kvs (Sum.inl s : Key) v) (fun x => if x = s then some v else f x) := by
  refine ⟨fun x => ?_, ?_, fun p hp => ?_⟩
  · rw [valV_put, d.val x]
    by_cases h : x = s
    · rw [if_pos (by rw [h]), if_pos h]
    · rw [if_neg (fun e => h (Sum.inl.inj e)), if_neg h]
  · cases e : valV kvs (Sum.inl s : Key) with
    | none => exact nd_putK v d.nd e
    | some x => rw [keys_putK e]; exact d.nd
  · have hk : p.1 ∈ (putK kvs (Sum.inl s : Key) v).map (·.1) := List.mem_map.mpr ⟨p, hp, rfl⟩
    cases e : valV kvs (Sum.inl s : Key) with
    | none =>
      rw [putK_new v e] at hp
      rcases List.mem_append.mp hp with h | h
      · exact d.isI p h
      · rw [List.mem_singleton.mp h]
        exact ⟨s, rfl⟩
    | some x =>
      rw [keys_putK e] at hk
      obtain ⟨q, hq, e2⟩ := List.mem_map.mp hk
      obtain ⟨z, hz⟩ := d.isI q hq
      exact ⟨z, by rw [← e2, hz]⟩
theorem DM.congr {kvs : List (Key × V)} {f g : Int → Option V} (d : DM kvs f) (h : ∀ s, f s = g s) : DM kvs g := ⟨fun s => (d.val s).trans (h s), d.nd, d.isI⟩
theorem DM.mem {kvs : List (Key × V)} {f : Int → Option V} (d : DM kvs f) {s : Int} {v : V} : ((Sum.inl s : Key), v) ∈ kvs ↔ f s = some v := by
  rw [← d.val s]
  have nd := d.nd
  clear d
  constructor
  · intro h
    induction kvs with
    | nil => cases h
    | cons p kvs ih =>
      rw [List.map_cons, List.nodup_cons] at nd
      rcases List.mem_cons.mp h with e | h
      · rw [← e]; exact valV_pos rfl
      · rw [valV_neg (fun e => nd.1 (List.mem_map.mpr ⟨_, h, e.symm⟩))]
        exact ih nd.2 h
  · intro h
    unfold valV at h
    obtain ⟨p, hp, e⟩ := Option.map_eq_some_iff.mp h
    have h1 := List.find?_some hp
    have h2 := List.mem_of_find?_eq_some hp
    have h3 : p.1 = Sum.inl s := of_decide_eq_true h1
    rw [← e, ← h3]
    exact h2
def keyI : Key → Int
  | .inl i => i
  | .inr _ => 0
theorem DM.keysI {kvs : List (Key × V)} {f : Int → Option V} (d : DM kvs f) : (kvs.map fun p => keyI p.1).Nodup ∧ ∀ s, s ∈ (kvs.map fun p => keyI p.1) ↔ f s ≠ none := by
  constructor
  · have nd := d.nd
    have ii := d.isI
    clear d
    induction kvs with
    | nil => exact List.nodup_nil
    | cons p kvs ih =>
      rw [List.map_cons, List.nodup_cons] at nd ⊢
      refine ⟨fun h => nd.1 ?_, ih nd.2 fun q hq => ii q (List.mem_cons_of_mem _ hq)⟩
      obtain ⟨q, hq, e⟩ := List.mem_map.mp h
      obtain ⟨x, hx⟩ := ii p List.mem_cons_self
      obtain ⟨y, hy⟩ := ii q (List.mem_cons_of_mem _ hq)
      rw [hx, hy] at e
      refine List.mem_map.mpr ⟨q, hq, ?_⟩
      rw [hx, hy]
      exact congrArg Sum.inl e
  · intro s
    constructor
    · intro h
      obtain ⟨⟨k, v⟩, hq, e⟩ := List.mem_map.mp h
      obtain ⟨y, hy⟩ := d.isI _ hq
      simp only at hy e
      subst hy
      have : y = s := e
      subst this
      rw [d.mem.mp hq]
      exact Option.some_ne_none v
    · intro h
      cases e : f s with
      | none => exact absurd e h
      | some v => exact List.mem_map.mpr ⟨_, d.mem.mpr e, rfl⟩
/-- its size, by a list of all that may be keys -/
theorem DM.size {kvs : List (Key × V)} {f : Int → Option V} (d : DM kvs f) {l : List Int} (h : ∀ s, f s ≠ none → s ∈ l) : kvs.length ≤ l.length := by
  have key : ∀ (a b : List Int), a.Nodup → (∀ x ∈ a, x ∈ b) → a.length ≤ b.length := by
    intro a
    induction a with
    | nil => exact fun _ _ _ => Nat.zero_le _
    | cons x a ih =>
      intro b nd hb
      obtain ⟨m1, m2, rfl⟩ := List.append_of_mem (hb x List.mem_cons_self)
      have nd' := List.nodup_cons.mp nd
      have := ih (m1 ++ m2) nd'.2 fun y hy => by
        rcases List.mem_append.mp (hb y (List.mem_cons_of_mem _ hy)) with z | z
        · exact List.mem_append_left _ z
        · rcases List.mem_cons.mp z with rfl | z
          · exact absurd hy nd'.1
          · exact List.mem_append_right _ z
      simp at this ⊢
      omega
  have := key _ l d.keysI.1 fun s hs => h s ((d.keysI.2 s).mp hs)
  rwa [List.length_map] at this
/-- a dict comprehension over any walk -/
theorem dc_it {J : It} {n : Nat} {G : Hp → Prop} {Y : Nat → Hp → V → Hp → Prop} (w : Walk J n G Y) {g : TG} {tt : TT} {tk tv : TE} {vs : List Nat} {σ : L2.St} {H1 : Hp} {D : Addr} {Qd : Hp → Prop} (Pv : Nat → Hp → Prop) (h0 : Pv 0 (upd H1 D (.dK []))) (hG : ∀ i H, i ≤ n → Pv i H → G H)
    (hs : ∀ i x H H', i < n → Pv i H → Y i H x H' → g x (wipe σ vs) H' fun σ2 H2 => wipe σ2 vs = wipe σ vs ∧ tt σ2 H2 fun b H3 =>
      if b = true then tk σ2 H3 fun y H4 => tv σ2 H4 fun z H5 => ∃ kvs k, y = kV k ∧ H5 D = some (.dK kvs) ∧ kvs.length < sizeLine ∧ Pv (i + 1) (upd H5 D (.dK (putK kvs k z))) else Pv (i + 1) H3) (hd : ∀ H, Pv n H → Qd H) :
    ∃ W : Nat → Nat → Hp → Prop, (∃ m, W 0 m (upd H1 D (.dK []))) ∧ ∀ i m H, W i m H →
      (J.stop i H ∧ Qd H) ∨ (J.go i H ∧ ∃ Nx : Hp → Prop, (∀ H', Nx H' → ∃ m', m' < m ∧ W (i + 1) m' H') ∧ ∀ x H', J.yld i H x H' → g x (wipe σ vs) H' fun σ2 H2 => wipe σ2 vs = wipe σ vs ∧ tt σ2 H2 fun b H3 =>
        if b = true then tk σ2 H3 fun y H4 => tv σ2 H4 fun z H5 => ∃ kvs k, y = kV k ∧ H5 D = some (.dK kvs) ∧ kvs.length < sizeLine ∧ Nx (upd H5 D (.dK (putK kvs k z))) else Nx H3) := by
  refine ⟨fun i m H => m = n - i ∧ i ≤ n ∧ Pv i H, ⟨n, by simp, Nat.zero_le _, h0⟩, ?_⟩
  rintro i m H ⟨rfl, hi, p⟩
  have q := hG i H hi p
  by_cases hlt : i < n
  · exact .inr ⟨w.goes i H hlt q, Pv (i + 1), fun H' p' => ⟨n - (i + 1), by omega, rfl, hlt, p'⟩, fun x H' y => hs i x H H' hlt p (w.yields i H x H' hlt q y)⟩
  · obtain rfl : i = n := by omega
    exact .inl ⟨w.stops H q, hd H p⟩
section
variable {X : Cx}
/-- d != e, e empty -/
def rNeD0 : R2 := fun x y H Q => ∃ a b ks, x = .ref a ∧ y = .ref b ∧ H a = some (.dK ks) ∧ H b = some (.dK []) ∧ Q (.bl (!ks.isEmpty)) H
theorem op_neD0 (hu : X.A.units < cLine) : OpR X (compareOp .NotEq) rNeD0 := by
  intro pins s σ H x y v u Q I rx ry h
  obtain ⟨a, b, ks, rfl, rfl, ea, eb, q⟩ := h
  obtain rfl : v = Value.ref a := rx
  obtain rfl : u = Value.ref b := ry
  obtain ⟨_, ya, va, ra, da⟩ := (show ObjOk X.prog X.w H s.heap a (.dK ks) from I.hok a _ ea)
  obtain ⟨_, yb, vb, rb, db⟩ := (show ObjOk X.prog X.w H s.heap b (.dK []) from I.hok b _ eb)
  cases rb
  cases ra with
  | nil => exact PySem.W.keq_ne (knd := mixKind X.prog X.w) (r := true) ya yb da db hu (fun _ => .nil) (fin_bl I q (by simp))
  | cons r1 r2 => exact PySem.W.keq_ne (knd := mixKind X.prog X.w) (r := true) ya yb da db hu (fun e => by simp at e) (fin_bl I q (by simp))
end
end LB

/-! set(list of ints): its size is at most the length of any list that holds all its members. -/
namespace KS
open PySem PySem.Spec PyProof.Rows L2
theorem nodup_leK {α : Type} [DecidableEq α] : ∀ (l m : List α), l.Nodup → (∀ x ∈ l, x ∈ m) → l.length ≤ m.length
  | [], _, _, _ => Nat.zero_le _
  | x :: l, m, nd, h => by
    obtain ⟨m1, m2, rfl⟩ := List.append_of_mem (h x List.mem_cons_self)
    have nd' := List.nodup_cons.mp nd
    have := nodup_leK l (m1 ++ m2) nd'.2 fun y hy => by
      rcases List.mem_append.mp (h y (List.mem_cons_of_mem _ hy)) with z | z
      · exact List.mem_append_left _ z
      · rcases List.mem_cons.mp z with rfl | z
        · exact absurd hy nd'.1
        · exact List.mem_append_right _ z
    simp at this ⊢
    omega
theorem setR_le {w : World} {h : Heap} {a : Addr} {S : Int → Bool} {n : Nat} (R : SetR w h a S n) {M : List Int} (hM : ∀ k, S k = true → k ∈ M) : n ≤ M.length := by
  obtain ⟨o, es, ep, t, _, _, _, _, nd, hs, _, _, hn, _⟩ := R
  have := nodup_leK _ M nd fun k hk => hM k ((hs k).mpr hk)
  rw [List.length_map, Array.length_toList] at this
  omega
def rSetJ (K : PySem.W.Frag) (w : World) : List V → Hp → VK → Prop := fun xs H Q => ∃ (l : Addr) (ns : List Int), xs = [V.ref l] ∧ SqL K H l (ns.map V.int) ∧ ns.length ≤ 4000 ∧
  ∀ a c, H a = none → (∀ M : List Int, (∀ x ∈ ns, x ∈ M) → c ≤ M.length) → Q (.ref a) (upd H a (SetO w a (fun j => decide (j ∈ ns)) c))
variable {X : Cx}
theorem cr_setJ (hc : X.calm = true) : CallR X (.type "set") (rSetJ X.K X.w) := by
  intro pins s σ H xs us Q I r h
  obtain ⟨l, ns, rfl, hl, hf, q⟩ := h
  rw [Vals.ref1 r]
  obtain ⟨its, rv, pl, hz⟩ := I.list hl
  have hn : H s.heap.objs.size = none := I.hok.fresh (Nat.le_refl _)
  refine set_of_ints (P := X.prog) (w := X.w) ns (I.ok.hd hc) pl.isList (by simpa using ints_of_vals rv) (by unfold scanBound; omega) fun h' tk c R hc' k => ?_
  exact ⟨.ref s.heap.objs.size, upd H s.heap.objs.size (SetO X.w s.heap.objs.size (fun j => decide (j ∈ ns)) c), I.laid (t' := tk) k (Nat.le_refl _) (setO_new R), rfl, q _ c hn fun M hM => setR_le R fun k hk => hM k (of_decide_eq_true hk)⟩
/-- sorted(set(xs)), fewer than 64 different ints -/
def rSS (K : PySem.W.Frag) : List V → Hp → VK → Prop := fun xs H Q => ∃ (l : Addr) (ns M : List Int), xs = [V.ref l] ∧ SqL K H l (ns.map V.int) ∧ ns.length ≤ 4000 ∧ (∀ x ∈ ns, x ∈ M) ∧ M.length < 64 ∧
  ∀ (ms : List Int) (p : Addr) (H' : Hp), ms.Pairwise (· < ·) → (∀ k, k ∈ ms ↔ k ∈ ns) → ms.length ≤ M.length → Same H H' → H p = none → H' p = none → Q (.ref p) (upd H' p (.lst (ms.map V.int)))
end KS

/-! Rules that the charts' own defs want: what is never reached; < of rows; the items of a dict just made; isinstance of plain values. -/
namespace CH
open PySem PySem.Spec PyProof.Rows L2 KS GL LB
section
variable {X : Cx}
/-- a statement that is never reached -/
theorem ps_dead {st : Stmt} : PS X st (fun _ _ _ => False) := ⟨fun _ _ _ _ _ _ h => h.elim⟩
theorem op_ltD (hu : X.A.units + 64 < cLine) : OpR X (compareOp .Lt) (rLtD X.K) := by
  intro pins s σ H x y v u Q I rx ry h
  obtain ⟨d, e, hd, he, ha, hn, hdp, q⟩ := h
  obtain ⟨as, r1⟩ := Dp.reads I d x v hd rx
  obtain ⟨bs, r2⟩ := Dp.reads I e y u he ry
  have hm : min d.depth e.depth ≤ d.depth := Nat.min_le_left _ _
  exact PySem.W.lt_data r1 r2 ha hn (by omega) ⟨.bl _, H, I, rfl, q⟩
/-- a thing just made, read and nothing else from then on: it stays locked -/
def tLk (t : TE) : TE := fun σ H Q => t σ H fun x H1 => ∃ d u, x = .ref d ∧ H1 d = some u ∧ Mut (some u) ∧ ∀ od, Q x (upd H1 d (.frz od u))
theorem pe_lk {e : Expr} {t : TE} (h : PE X e t) : PE X e (tLk t) := by
  refine ⟨fun pins s σ H Q I hw => ?_⟩
  refine thn (h.run pins s σ H _ I hw) fun v s1 ⟨x, H1, I1, r, d, u, ex, hd, mu, q⟩ => ?_
  obtain ⟨od, I2⟩ := I1.lock hd mu
  exact ⟨x, _, I2, r, q od⟩
end
/-! ### isinstance -/
section
variable {K : PySem.W.Frag} {H : Hp} {Q : VK}
theorem isi_str {z : Str} (q : Q (.bl true) H) : rIsi K [.str z, .ty "str"] H Q := ⟨_, _, _, _, true, rfl, .ty _, .base (.str z), kit_ty (by decide +kernel), q⟩
theorem isi_int {n : Int} (q : Q (.bl true) H) : rIsi K [.int n, .ty "int"] H Q := ⟨_, _, _, _, true, rfl, .ty _, .base (.int n), kit_ty (by decide +kernel), q⟩
theorem isi_int_bool {n : Int} (q : Q (.bl false) H) : rIsi K [.int n, .ty "bool"] H Q := ⟨_, _, _, _, false, rfl, .ty _, .base (.int n), kit_ty (by decide +kernel), q⟩
theorem isi_tup {a : Addr} {xs : List V} (h : SqT K H a xs) (q : Q (.bl true) H) : rIsi K [.ref a, .ty "tuple"] H Q := by
  rcases h with (h | ⟨o, h⟩) | ⟨o, its, n, h, hc, _⟩
  · exact ⟨_, _, _, _, true, rfl, .ty _, .base (.tup h), kit_ty (by decide +kernel), q⟩
  · exact ⟨_, _, _, _, true, rfl, .ty _, .fTuple h, kit_ty (by decide +kernel), q⟩
  · exact ⟨_, _, _, _, true, rfl, .ty _, .kTuple h hc, kit_ty (by decide +kernel), q⟩
variable {te : TE} {σ : L2.St}
/-- .. of a variable -/
theorem v_isi_str {i : Nat} {z : Str} (hi : σ[i]? = some (some (.str z))) (q : Q (.bl true) H) : tCB (rIsi K) (tCons (tVar i) (tCons (tC (.ty "str")) tNil)) σ H Q := ⟨.str z, hi, isi_str q⟩
theorem v_isi_int {i : Nat} {n : Int} (hi : σ[i]? = some (some (.int n))) (q : Q (.bl true) H) : tCB (rIsi K) (tCons (tVar i) (tCons (tC (.ty "int")) tNil)) σ H Q := ⟨.int n, hi, isi_int q⟩
theorem v_isi_ib {i : Nat} {n : Int} (hi : σ[i]? = some (some (.int n))) (q : Q (.bl false) H) : tCB (rIsi K) (tCons (tVar i) (tCons (tC (.ty "bool")) tNil)) σ H Q := ⟨.int n, hi, isi_int_bool q⟩
theorem v_isi_tup {i : Nat} {a : Addr} {xs : List V} (hi : σ[i]? = some (some (.ref a))) (h : SqT K H a xs) (q : Q (.bl true) H) : tCB (rIsi K) (tCons (tVar i) (tCons (tC (.ty "tuple")) tNil)) σ H Q := ⟨.ref a, hi, isi_tup h q⟩
end
end CH

namespace LB
open PySem PySem.Spec PyProof.Rows L2 KS GL
/-- the built-ins by their names -/
structure Blt (mg : Str → Option Value) : Prop where
  b_int : mg "int" = none
  b_len : mg "len" = none
  b_list : mg "list" = none
  b_tuple : mg "tuple" = none
  b_dict : mg "dict" = none
  b_set : mg "set" = none
  b_sorted : mg "sorted" = none
  b_sum : mg "sum" = none
  b_repr : mg "repr" = none
  b_range : mg "range" = none
  b_max : mg "max" = none
  b_min : mg "min" = none

/-! ### the deck -/
theorem n_cm : ¬ (("cells" : Str) = "mixed") := by decide +kernel
theorem n_ct : ¬ (("cells" : Str) = "turn") := by decide +kernel
theorem n_mt : ¬ (("mixed" : Str) = "turn") := by decide +kernel
def deckL (c : Addr) (m t : Int) : List (Key × V) := [(Sum.inr "cells", .ref c), (Sum.inr "mixed", .int m), (Sum.inr "turn", .int t)]
theorem inr_ne {a b : Str} (h : ¬ a = b) : ¬ ((Sum.inr a : Key) = Sum.inr b) := fun e => h (Sum.inr.inj e)
theorem deck_cells (c : Addr) (m t : Int) : valV (deckL c m t) (Sum.inr "cells") = some (.ref c) := by simp [deckL, valV]
theorem deck_mixed (c : Addr) (m t : Int) : valV (deckL c m t) (Sum.inr "mixed") = some (.int m) := by
  unfold deckL valV
  rw [List.find?_cons_of_neg (by simpa using inr_ne n_cm), List.find?_cons_of_pos (by simp)]
  rfl
theorem deck_turn (c : Addr) (m t : Int) : valV (deckL c m t) (Sum.inr "turn") = some (.int t) := by
  unfold deckL valV
  rw [List.find?_cons_of_neg (by simpa using inr_ne n_ct), List.find?_cons_of_neg (by simpa using inr_ne n_mt), List.find?_cons_of_pos (by simp)]
  rfl
theorem deck_put (c : Addr) (m t u : Int) : putK (deckL c m t) (Sum.inr "turn") (.int u) = deckL c m u := by
  unfold putK deckL
  rw [if_pos (by simp)]
  simp [List.map, inr_ne n_ct, inr_ne n_mt]
structure Dk (H : Hp) (d c : Addr) (n : Nat) : Prop where
  ex : ∃ (ns : List Int) (m t : Int), H d = some (.dK (deckL c m t)) ∧ H c = some (.lst (ns.map V.int)) ∧ ns.length ≤ 63 ∧ 0 ≤ m ∧ m < 2 ^ 40 ∧ 0 ≤ t ∧ t ≤ n
/-- what is known (H0) stands, the deck aside -/
structure Bk (H0 H : Hp) (d c : Addr) (n : Nat) : Prop where
  same : Same H0 H
  hd : H0 d = none
  hc : H0 c = none
  dk : Dk H d c n
theorem Bk.mono {H0 H : Hp} {d c : Addr} {n m : Nat} (B : Bk H0 H d c n) (h : n ≤ m) : Bk H0 H d c m := by
  obtain ⟨⟨ns, x, t, a1, a2, a3, a4, a5, a6, a7⟩⟩ := B.dk
  exact ⟨B.same, B.hd, B.hc, ⟨ns, x, t, a1, a2, a3, a4, a5, a6, by omega⟩⟩
/-- a new object is not the deck -/
theorem Bk.newL {H0 H : Hp} {d c p : Addr} {n : Nat} (B : Bk H0 H d c n) (hp : H p = none) : p ≠ d ∧ p ≠ c ∧ H0 p = none := by
  obtain ⟨⟨ns, x, t, a1, a2, _⟩⟩ := B.dk
  exact ⟨(fun e => by rw [e, a1] at hp; cases hp), (fun e => by rw [e, a2] at hp; cases hp), B.same.free hp⟩
/-- a new object made: nothing more is known -/
theorem Bk.junk {H0 H : Hp} {d c p : Addr} {n : Nat} {o : HO} (B : Bk H0 H d c n) (hp : H0 p = none) (h1 : p ≠ d) (h2 : p ≠ c) : Bk H0 (upd H p o) d c n := by
  obtain ⟨⟨ns, x, t, a1, a2, a3⟩⟩ := B.dk
  refine ⟨fun b u e => ?_, B.hd, B.hc, ⟨ns, x, t, ?_, ?_, a3⟩⟩
  · rw [upd_ne (ne_of_none e hp)]
    exact B.same b u e
  · rw [upd_ne h1.symm]; exact a1
  · rw [upd_ne h2.symm]; exact a2
/-- a new object made, and known from then on -/
theorem Bk.keep {H0 H : Hp} {d c p : Addr} {n : Nat} {o : HO} (B : Bk H0 H d c n) (hp : H p = some o) (h1 : p ≠ d) (h2 : p ≠ c) : Bk (upd H0 p o) H d c n := by
  refine ⟨fun b u e => ?_, ?_, ?_, B.dk⟩
  · by_cases hb : b = p
    · subst hb
      rw [upd_same] at e
      rw [hp, e]
    · rw [upd_ne hb] at e
      exact B.same b u e
  · rw [upd_ne h1.symm]; exact B.hd
  · rw [upd_ne h2.symm]; exact B.hc
theorem same_upd {H : Hp} {p : Addr} {o : HO} (h : H p = none) : Same H (upd H p o) := fun b x e => by
  rw [upd_ne (ne_of_none e h)]
  exact e
theorem Bk.less {H0 H1 H : Hp} {d c : Addr} {n : Nat} (B : Bk H1 H d c n) (s : Same H0 H1) : Bk H0 H d c n := ⟨s.trans B.same, s.free B.hd, s.free B.hc, B.dk⟩

theorem shaped_ints (ns : List Int) : SeqAt.shaped (PyData.list (ns.map .int)) = true := by
  unfold SeqAt.shaped
  have h1 : ∀ l : List Int, PyData.canLayAll0 (l.map .int) = true := by
    intro l
    induction l with
    | nil => simp [PyData.canLayAll0]
    | cons x l ih => rw [List.map_cons, PyData.canLayAll0, ih]; simp [PyData.canLay0]
  have h2 : ∀ l : List Int, PyData.depthAll (l.map .int) = 0 := by
    intro l
    induction l with
    | nil => simp [PyData.depthAll]
    | cons x l ih => rw [List.map_cons, PyData.depthAll, ih]; simp [PyData.depth]
  rw [PyData.canLay0, h1, PyData.depth, h2]
  rfl
theorem dp_ints {K : PySem.W.Frag} {H : Hp} : ∀ ns : List Int, DpAll K H (ns.map V.int) (ns.map .int)
  | [] => .nil
  | n :: ns => .cons (.int n) (dp_ints ns)
theorem eqv_nil (ns : List Int) : PyData.eqv (PyData.list (ns.map .int)) (PyData.list []) = ns.isEmpty := by
  cases ns with
  | nil => simp [PyData.eqv, PyData.eqvAll]
  | cons x l => simp [PyData.eqv, PyData.eqvAll]
def spDraw : Sp := fun vs H Q _ => ∃ (H0 : Hp) (d c : Addr) (n : Nat) (many : Int), vs = [.ref d, .int many] ∧ Bk H0 H d c n ∧ 1 ≤ many ∧ many < 2 ^ 30 ∧ n < 2 ^ 40 ∧
  ∀ (k : Int) (H' : Hp), 0 ≤ k → k < many → Bk H0 H' d c (n + 1) → Q (.int k) H'
def spPick (K : PySem.W.Frag) : Sp := fun vs H Q _ => ∃ (H0 : Hp) (d c a : Addr) (n : Nat) (xs : List V), vs = [.ref d, .ref a] ∧ Bk H0 H d c n ∧ (SqL K H0 a xs ∨ SqT K H0 a xs) ∧ 1 ≤ xs.length ∧ xs.length < 2 ^ 30 ∧ n < 2 ^ 40 ∧
  ∀ (v : V) (H' : Hp), v ∈ xs → Bk H0 H' d c (n + 1) → Q v H'
def spDeck (K : PySem.W.Frag) : Sp := fun vs H Q _ => ∃ (a : Addr) (ns : List Int), vs = [.ref a] ∧ SqL K H a (ns.map V.int) ∧ ∀ (d c : Addr) (H' : Hp), Bk H H' d c 0 → Q (.ref d) H'
end LB

/-! The charts' defs in this law's text, by place. -/
namespace CH
open PySem PySem.Spec PyProof.Rows L2 KS GL LB
def topS (i : Nat) : Stmt := PySem.Challenge.pw_loopsaid_k04_texts_of_charts.main.body.getD i (.Pass ⟨0, 0, 0, 0⟩)
abbrev nEND : Str := "END"
abbrev sLabel : Stmt := topS 14
abbrev sInt : Stmt := topS 15
abbrev sArrow : Stmt := topS 16
abbrev sSteps : Stmt := topS 17
abbrev sReached : Stmt := topS 18
abbrev sLeast : Stmt := topS 19
abbrev sCheck : Stmt := topS 20
abbrev sInit : Stmt := inClass (topS 25) 0
abbrev sMRead : Stmt := inClass (topS 25) 1
abbrev sMLabels : Stmt := inClass (topS 25) 2
abbrev sMBegunAt : Stmt := inClass (topS 25) 3
abbrev sMWithout : Stmt := inClass (topS 25) 4
abbrev sMGetitem : Stmt := inClass (topS 25) 5
abbrev sMLen : Stmt := inClass (topS 25) 6
abbrev sContains : Stmt := inClass (topS 25) 7
abbrev sMIter : Stmt := inClass (topS 25) 8
abbrev sMEq : Stmt := inClass (topS 25) 9
abbrev sMStr : Stmt := inClass (topS 25) 10
end CH

namespace CH
open PySem PySem.Spec PyProof.Rows L2 KS GL LB
structure Blt2 (mg : Str → Option Value) : Prop extends Blt mg where
  b_isinstance : mg "isinstance" = none
  b_all : mg "all" = none
  b_zip : mg "zip" = none
  b_str : mg "str" = none
  b_bool : mg "bool" = none
def resW : List Str := ["choose", "end", "or", "repeat", "states", "stop", "until"]
def lets : Str := "abcdefghijklmnopqrstuvwxyz"
/-- the constants of the charts' module -/
structure Cst (K : PySem.W.Frag) (mg : Str → Option Value) : Prop where
  c_END : ∃ u, mg nEND = some u ∧ RelV (.int (-1)) u
  c_LONGEST : ∃ u, mg "LONGEST_LABEL" = some u ∧ RelV (.int 8) u
  c_PARTS : ∃ u, mg "PARTS" = some u ∧ RelV (.int 3) u
  c_LETTERS : ∃ u, mg "LETTERS" = some u ∧ RelV (.str lets) u
  c_RESERVED : ∃ a, mg "RESERVED" = some (.ref a) ∧ ∀ H : Hp, SqT K H a (resW.map V.str)
/-- what is_label tells of a text -/
def labelB (z : Str) : Bool := decide (1 ≤ z.length) && decide (z.length ≤ 8) && !decide (z ∈ resW) && z.cps.toList.all fun c => decide (c ∈ lets.cps.toList)
theorem flat_strs : ∀ ns : List Str, (ns.map V.str).all flatV = true
  | [] => rfl
  | n :: ns => by
    rw [List.map_cons, List.all_cons, flat_strs ns]
    rfl
theorem inV_strs (s : Str) : ∀ ns : List Str, inV (.str s) (ns.map V.str) = decide (s ∈ ns) := by
  intro ns
  unfold inV
  rw [List.any_map, Bool.eq_iff_iff, List.any_eq_true, decide_eq_true_eq]
  constructor
  · rintro ⟨x, hx, h⟩
    have : x = s := by simpa [eqV] using h
    exact this ▸ hx
  · intro h
    exact ⟨s, h, by simp [eqV]⟩
theorem sameT' {K : PySem.W.Frag} {H H' : Hp} {a : Addr} {xs : List V} (e : Same H H') (h : SqT K H a xs) : SqT K H' a xs := by
  rcases h with (h | ⟨o, h⟩) | h
  · exact .inl (.inl (e _ _ h))
  · exact .inl (.inr ⟨o, e _ _ h⟩)
  · exact .inr h
section
variable {P : Program} {w : World} {K : PySem.W.Frag} {mg : Str → Option Value} {base : Heap}
def spLabel : Sp := fun vs H Q _ => ∃ z : Str, vs = [.str z] ∧ z.length ≤ 1000 ∧ ∀ H', Same H H' → Q (.bl (labelB z)) H'
theorem scLabel : FnScope ["thing", "sign"] ["thing"] (defScope sLabel) := ⟨rfl, rfl, rfl, by decide +kernel, rfl, by decide +kernel, by decide +kernel⟩
theorem ok_label {f : Addr} {fd : FuncData} (F : Fun K "is_label" "is_label" sLabel f fd) (T : Blt2 mg) (C : Cst K mg) : FnOk P w K mg base CX0 1 f fd ["thing"] spLabel := by
  refine F.ok scLabel (fun vs H Q E h => ?_) (fun cdv A outer s H vs Q E hr h => ?_)
  · obtain ⟨_, rfl, _⟩ := h
    rfl
  · obtain ⟨z, rfl, hz, q⟩ := h
    obtain ⟨u1, g1, r1⟩ := C.c_LONGEST
    obtain ⟨u2, g2, r2⟩ := C.c_RESERVED
    obtain ⟨u3, g3, r3⟩ := C.c_LETTERS
    refine ⟨_, (pss_cons (ps_if (PW.pt (pw_or (pt_not (pt_val (pe_callB call_isi (by rfl) T.b_isinstance (by decide +kernel) (pa_cons (pv 0) (pa_cons (pe_bltn (u := .type "str") (v := .ty "str") rfl T.b_str (by decide +kernel) rfl) pa_nil))))) (pw_or (pt_not (pt_chain op_le op_le pe_int (pe_callB call_len_str (by rfl) T.b_len PySem.boot_len (pa_cons (pv 0) pa_nil)) (pe_glob rfl g1 r1))) (pw_or1 (pt_cmpR op_in_seq (pv 0) (pe_glob (v := .ref u2) rfl g2 rfl) (by rfl))))))
    (pss_one (ps_ret pe_bl))
    pss_nil)
  (pss_one (ps_ret (pe_callB (cr_all rfl) (by rfl) T.b_all (by decide +kernel) (pa_cons (pe_lc (own := [("sign", 1)]) (g := gName 1) (tt := tYes) rfl scLabel.nd (pi_str (pv 0)) (blkOk_by (own := [("sign", 1)]) (N := ["thing", "sign"]) (sc := defScope sLabel) (by decide +kernel)) (fun _ _ _ _ _ => (pg_name (i := 1) scLabel.nd rfl (Or.inl rfl))) (fun _ _ _ _ _ => pts_nil) (fun _ _ _ _ _ => (pe_cmpR op_in_sign (pv 1) (pe_glob rfl g3 r3) (by rfl)))) pa_nil))))), ?_⟩
    have hzs : z.length ≤ sizeLine := Nat.le_of_lt (small1000 (by omega))
    have res : ∀ b, labelB z = b → ∀ H', Same H H' → Q (.bl b) H' := fun b e H' S => e ▸ q H' S
    have fin0 : labelB z = false → Q (.bl false) H := fun e => e ▸ q H (Same.refl _)
    -- isinstance(thing, str)
    refine v_isi_str (i := 0) (z := z) rfl ⟨true, rfl, iteF ?_⟩
    -- 1 <= len(thing) <= 8
    refine ⟨.str z, rfl, z, rfl, hzs, 1, _, rfl, rfl, _, rfl, ite2 (fun h1 => ?_) (fun h1 => ?_)⟩
    · refine ⟨_, _, rfl, rfl, _, rfl, ?_⟩
      refine ite2 (fun h2 => ?_) (fun h2 => ?_)
      · refine iteT ?_
        refine fin0 ?_
        have : ¬ z.length ≤ 8 := fun h => by simp at h2; omega
        simp [labelB, this]
      · have h8 : z.length ≤ 8 := Classical.byContradiction fun h => h2 (by simp; omega)
        have h1' : 1 ≤ z.length := by simp at h1; omega
        -- thing in RESERVED
        refine ⟨.str z, rfl, u2, _, rfl, .inr (r2 H), rfl, flat_strs _, _, rfl, ?_⟩
        rw [inV_strs]
        refine ite2 (fun h3 => ?_) (fun h3 => ?_)
        · refine fin0 ?_
          have : z ∈ resW := by simpa using h3
          simp [labelB, this]
        · have hr : ¬ z ∈ resW := by simpa using h3
          -- all(..)
          refine ⟨.str z, rfl, z, rfl, fun D hD => ?_⟩
          refine lc_it walk_str (fun i H' => H' = upd H D (.lst ((z.cps.toList.take i).map fun c => V.bl (decide (c ∈ lets.cps.toList))))) rfl (fun _ _ _ _ => True.intro) ?_ ?_
          · rintro i x H2 H2' hi rfl ⟨rfl, c, hc, rfl⟩
            have hc' : z.cps.toList[i]? = some c := by rw [Array.getElem?_toList]; exact hc
            refine ⟨rfl, ?_⟩
            unfold tYes
            refine iteT ?_
            refine ⟨_, rfl, c, lets, rfl, rfl, _, upd_same, ?_, ?_⟩
            · rw [List.length_map]
              have h := List.length_take_le' i z.cps.toList
              have h9 : z.cps.toList.length = z.length := by rw [Array.length_toList]; rfl
              exact small1000 (by omega)
            · rw [upd_upd, List.take_succ, hc', List.map_append]
              rfl
          · rintro H2 rfl
            have hfull : z.cps.toList.take z.cps.size = z.cps.toList := by rw [← Array.length_toList, List.take_length]
            rw [hfull]
            refine ⟨D, z.cps.toList.map fun c => decide (c ∈ lets.cps.toList), rfl, .inl (.inl (by rw [upd_same, List.map_map]; rfl)), ?_⟩
            have e : labelB z = (z.cps.toList.map fun c => decide (c ∈ lets.cps.toList)).all id := by
              unfold labelB
              rw [decide_eq_true h1', decide_eq_true h8, decide_eq_false hr, List.all_map]
              rfl
            rw [← e]
            exact q _ (same_upd hD)
    · refine ⟨_, rfl, ?_⟩
      refine iteT ?_
      refine fin0 ?_
      have : ¬ 1 ≤ z.length := fun h => h1 (by simp; omega)
      simp [labelB, this]
/-! ### is_integer, is_arrow -/
def spInt : Sp := fun vs H Q _ => ∃ n : Int, vs = [.int n] ∧ Q (.bl true) H
theorem scInt : FnScope ["thing"] ["thing"] (defScope sInt) := ⟨rfl, rfl, rfl, by decide +kernel, rfl, by decide +kernel, by decide +kernel⟩
theorem ok_int {f : Addr} {fd : FuncData} (F : Fun K "is_integer" "is_integer" sInt f fd) (T : Blt2 mg) : FnOk P w K mg base CX0 1 f fd ["thing"] spInt := by
  refine F.ok scInt (fun vs H Q E h => ?_) (fun cdv A outer s H vs Q E hr h => ?_)
  · obtain ⟨_, rfl, _⟩ := h
    rfl
  · obtain ⟨n, rfl, q⟩ := h
    refine ⟨_, (pss_one (ps_ret (pe_and (pe_callB call_isi (by rfl) T.b_isinstance (by decide +kernel) (pa_cons (pv 0) (pa_cons (pe_bltn (u := .type "int") (v := .ty "int") rfl T.b_int (by decide +kernel) rfl) pa_nil))) (pe_one (pe_not (pe_callB call_isi (by rfl) T.b_isinstance (by decide +kernel) (pa_cons (pv 0) (pa_cons (pe_bltn (u := .type "bool") (v := .ty "bool") rfl T.b_bool (by decide +kernel) rfl) pa_nil)))))))), ?_⟩
    refine v_isi_int (i := 0) (n := n) rfl ⟨true, rfl, iteT ?_⟩
    refine v_isi_ib (i := 0) (n := n) rfl ⟨false, rfl, ?_⟩
    exact q
def arrowB (n s : Int) (l : Str) (t : Int) : Bool := labelB l && (decide (0 ≤ s) && decide (s < n)) && (decide (-1 ≤ t) && decide (t < n))
def spArrow (K : PySem.W.Frag) : Sp := fun vs H Q _ => ∃ (n s t : Int) (l : Str) (a : Addr), vs = [.int n, .ref a] ∧ SqT K H a [.int s, .str l, .int t] ∧ l.length ≤ 1000 ∧ ∀ H', Same H H' → Q (.bl (arrowB n s l t)) H'
theorem scArrow : FnScope ["states", "thing", "source", "label", "target"] ["states", "thing"] (defScope sArrow) := ⟨rfl, rfl, rfl, by decide +kernel, rfl, by decide +kernel, by decide +kernel⟩
theorem ok_arrow {f : Addr} {fd : FuncData} (F : Fun K "is_arrow" "is_arrow" sArrow f fd) (T : Blt2 mg) (C : Cst K mg) (his_label : Has P w K mg base "is_label" 1 ["thing"] spLabel) (his_integer : Has P w K mg base "is_integer" 1 ["thing"] spInt) :
    FnOk P w K mg base CX0 2 f fd ["states", "thing"] (spArrow K) := by
  refine F.ok scArrow (fun vs H Q E h => ?_) (fun cdv A outer s H vs Q E hr h => ?_)
  · obtain ⟨_, _, _, _, _, rfl, _⟩ := h
    rfl
  · obtain ⟨n, s, t, l, a, rfl, hS, hl, q⟩ := h
    obtain ⟨u1, g1, r1⟩ := C.c_PARTS
    obtain ⟨u2, g2, r2⟩ := C.c_END
    refine ⟨_, (pss_cons (ps_if (PW.pt (pw_or (pt_not (pt_val (pe_callB call_isi (by rfl) T.b_isinstance (by decide +kernel) (pa_cons (pv 1) (pa_cons (pe_bltn (u := .type "tuple") (v := .ty "tuple") rfl T.b_tuple (by decide +kernel) rfl) pa_nil))))) (pw_or (pt_cmpR op_ne (pe_callB call_len_seq (by rfl) T.b_len PySem.boot_len (pa_cons (pv 1) pa_nil)) (pe_glob rfl g1 r1) (nomark _)) (pw_or1 (pt_not (pt_val (pe_has his_label (hr.mono (by decide)) rfl (pa_cons (pe_ix ix_tup (pv 1) pe_int (fun _ _ => rfl)) pa_nil))))))))
    (pss_one (ps_ret pe_bl))
    pss_nil)
  (pss_cons (ps_asg (pv 1) (pg_tup rfl (pgs_cons (pg_name (i := 2) scArrow.nd rfl (Or.inl rfl)) (pgs_cons (pg_name (i := 3) scArrow.nd rfl (Or.inl rfl)) (pgs_cons (pg_name (i := 4) scArrow.nd rfl (Or.inl rfl)) pgs_nil)))))
  (pss_one (ps_ret (pe_and (pe_has his_integer (hr.mono (by decide)) rfl (pa_cons (pv 2) pa_nil)) (pe_and (pe_has his_integer (hr.mono (by decide)) rfl (pa_cons (pv 4) pa_nil)) (pe_and (pe_chain op_le op_lt pe_int (pv 2) (pv 0)) (pe_one (pe_chain op_le op_lt (pe_glob rfl g2 r2) (pv 4) (pv 0)))))))))), ?_⟩
    refine v_isi_tup (i := 1) rfl hS ⟨true, rfl, iteF ?_⟩
    -- len(thing) != PARTS
    refine ⟨.ref a, rfl, a, _, rfl, .inr hS, rfl, _, rfl, ?_⟩
    refine (show if (!decide (V.int 3 = V.int 3)) = true then _ else _ from ?_)
    rw [decide_eq_true rfl]
    refine iteF ?_
    -- not is_label(thing[1])
    refine ⟨.ref a, rfl, a, _, 1, .str l, rfl, rfl, hS, atI_nat (j := 1) rfl, l, rfl, hl, fun H1 S1 => ⟨_, rfl, ite2 (fun h1 => ?_) (fun h1 => ?_)⟩⟩
    · have h0 : labelB l = false := by simpa using h1
      have : arrowB n s l t = false := by simp [arrowB, h0]
      exact this ▸ q H1 S1
    · have h0 : labelB l = true := by simpa using h1
      have hS1 := sameT' S1 hS
      refine ⟨.ref a, rfl, a, _, rfl, hS1, rfl, _, _, rfl, _, _, rfl, _, _, rfl, rfl, ?_⟩
      refine ⟨.int s, rfl, s, rfl, true, rfl, iteT ?_⟩
      refine ⟨.int t, rfl, t, rfl, true, rfl, iteT ?_⟩
      have no : arrowB n s l t = false → Q (.bl false) H1 := fun e => e ▸ q H1 S1
      refine ⟨.int s, rfl, 0, s, rfl, rfl, _, rfl, ite2 (fun k1 => ?_) (fun k1 => ?_)⟩
      · have k1 : (0 : Int) ≤ s := of_decide_eq_true k1
        refine ⟨.int n, rfl, s, n, rfl, rfl, _, rfl, ite2 (fun k2 => ?_) (fun k2 => ?_)⟩
        · have k2 : s < n := of_decide_eq_true k2
          refine ⟨.int t, rfl, -1, t, rfl, rfl, _, rfl, ite2 (fun k3 => ?_) (fun k3 => ?_)⟩
          · have k3 : -1 ≤ t := of_decide_eq_true k3
            refine ⟨.int n, rfl, t, n, rfl, rfl, ?_⟩
            have : arrowB n s l t = decide (t < n) := by simp [arrowB, h0, k1, k2, k3]
            exact (show Q (.bl (decide (t < n))) H1 from this ▸ q H1 S1)
          · have k3 : ¬ -1 ≤ t := fun h => k3 (decide_eq_true h)
            exact no (by simp [arrowB, k3])
        · have k2 : ¬ s < n := fun h => k2 (decide_eq_true h)
          exact no (by simp [arrowB, k2])
      · have k1 : ¬ (0 : Int) ≤ s := fun h => k1 (decide_eq_true h)
        refine ⟨false, rfl, iteF (no (by simp [arrowB, k1]))⟩
end
end CH

/-! A dict that groups: key after key, each with its own list (d.setdefault(k, []).append(v)). -/
namespace LB
open PySem PySem.Spec PyProof.Rows L2 KS GL
/-- the values of key k, in their order -/
def grp (ps : List (Int × V)) (k : Int) : List V := (ps.filter fun p => decide (p.1 = k)).map (·.2)
def gf (ps : List (Int × V)) (pt : Int → Addr) : Int → Option V := fun k => if grp ps k = [] then none else some (.ref (pt k))
theorem grp_add (ps : List (Int × V)) (s : Int) (v : V) (x : Int) : grp (ps ++ [(s, v)]) x = grp ps x ++ if x = s then [v] else [] := by
  unfold grp
  rw [List.filter_append, List.map_append]
  by_cases h : x = s
  · rw [if_pos h]
    simp [List.filter_cons, h.symm]
  · rw [if_neg h]
    have : ¬ s = x := fun e => h e.symm
    simp [List.filter_cons, this]
theorem grp_le (ps : List (Int × V)) (x : Int) : (grp ps x).length ≤ ps.length := by
  unfold grp
  rw [List.length_map]
  exact List.length_filter_le _ _
theorem mem_grp {ps : List (Int × V)} {x : Int} {v : V} : v ∈ grp ps x ↔ (x, v) ∈ ps := by
  unfold grp
  rw [List.mem_map]
  constructor
  · rintro ⟨⟨a, b⟩, hm, rfl⟩
    have := List.mem_filter.mp hm
    simp at this
    rw [← this.2]
    exact this.1
  · intro hm
    exact ⟨(x, v), List.mem_filter.mpr ⟨hm, by simp⟩, rfl⟩
theorem grp_nil {ps : List (Int × V)} {x : Int} : grp ps x = [] ↔ ∀ v, (x, v) ∉ ps := by
  rw [List.eq_nil_iff_forall_not_mem]
  exact ⟨fun h v hv => h v (mem_grp.mpr hv), fun h v hv => h v (mem_grp.mp hv)⟩
structure GD (H0 H : Hp) (D : Addr) (kvs : List (Key × V)) (ps : List (Int × V)) (pt : Int → Addr) : Prop where
  same : Same H0 H
  fd : H0 D = none
  at_ : H D = some (.dK kvs)
  dm : DM kvs (gf ps pt)
  fl : ∀ k, grp ps k ≠ [] → H0 (pt k) = none
  l : ∀ k, grp ps k ≠ [] → H (pt k) = some (.lst (grp ps k))
  inj : ∀ k j, grp ps k ≠ [] → grp ps j ≠ [] → pt k = pt j → k = j
section
variable {H0 H : Hp} {D : Addr} {kvs : List (Key × V)} {ps : List (Int × V)} {pt : Int → Addr}
theorem GD.nil (h : H D = none) : GD H (upd H D (.dK [])) D [] [] (fun _ => 0) :=
  ⟨same_upd h, h, upd_same, DM.nil, fun _ h => absurd rfl h, fun _ h => absurd rfl h, fun _ _ h => absurd rfl h⟩
theorem GD.len (e : GD H0 H D kvs ps pt) : kvs.length ≤ ps.length := by
  have := e.dm.size (l := ps.map (·.1)) fun s hs => by
    unfold gf at hs
    split at hs
    · exact absurd rfl hs
    · rename_i h
      refine Classical.byContradiction fun no => h (grp_nil.mpr fun t ht => no (List.mem_map.mpr ⟨(s, t), ht, rfl⟩))
  rwa [List.length_map] at this
theorem GD.neD (e : GD H0 H D kvs ps pt) {k : Int} (h : grp ps k ≠ []) : pt k ≠ D := fun x => by
  have := e.l k h
  rw [x, e.at_] at this
  cases this
theorem GD.free (e : GD H0 H D kvs ps pt) {w : Addr} (hw : H w = none) : H0 w = none ∧ w ≠ D ∧ ∀ k, grp ps k ≠ [] → w ≠ pt k := by
  refine ⟨e.same.free hw, fun x => ?_, fun k hk x => ?_⟩
  · rw [x, e.at_] at hw; cases hw
  · rw [x, e.l k hk] at hw; cases hw
theorem GD.other (e : GD H0 H D kvs ps pt) {w : Addr} {H' : Hp} (hw : H0 w = none) (w1 : w ≠ D) (w2 : ∀ k, grp ps k ≠ [] → w ≠ pt k) (hh : ∀ a, a ≠ w → H' a = H a) : GD H0 H' D kvs ps pt := by
  refine ⟨fun a u ha => ?_, e.fd, by rw [hh _ w1.symm]; exact e.at_, e.dm, e.fl, fun k hk => by rw [hh _ (w2 k hk).symm]; exact e.l k hk, e.inj⟩
  rw [hh a (ne_of_none ha hw)]
  exact e.same a u ha
theorem GD.junk (e : GD H0 H D kvs ps pt) {w : Addr} {o : HO} (hw : H w = none) : GD H0 (upd H w o) D kvs ps pt := by
  obtain ⟨a1, a2, a3⟩ := e.free hw
  exact e.other a1 a2 a3 fun a ha => upd_ne ha
/-- a thing that stands, not of the group, is known from now on -/
theorem GD.keep (e : GD H0 H D kvs ps pt) {w : Addr} {o : HO} (hw : H w = some o) (w1 : w ≠ D) (w2 : ∀ k, grp ps k ≠ [] → w ≠ pt k) : GD (upd H0 w o) H D kvs ps pt := by
  refine ⟨fun a u ha => ?_, by rw [upd_ne w1.symm]; exact e.fd, e.at_, e.dm, fun k hk => by rw [upd_ne (w2 k hk).symm]; exact e.fl k hk, e.l, e.inj⟩
  by_cases h : a = w
  · subst h
    rw [upd_same] at ha
    rw [hw, ha]
  · rw [upd_ne h] at ha
    exact e.same a u ha
/-- a new key -/
theorem GD.new (e : GD H0 H D kvs ps pt) {s : Int} {v : V} {p : Addr} {H' : Hp} (hb : grp ps s = []) (hp : H p = none) (hD : H' D = some (.dK (putK kvs (Sum.inl s) (.ref p)))) (hP : H' p = some (.lst [v])) (hh : ∀ a, a ≠ D → a ≠ p → H' a = H a) :
    GD H0 H' D (putK kvs (Sum.inl s) (.ref p)) (ps ++ [(s, v)]) (fun x => if x = s then p else pt x) := by
  obtain ⟨a1, a2, a3⟩ := e.free hp
  have key : ∀ x, ¬ x = s → grp (ps ++ [(s, v)]) x = grp ps x := fun x hx => by rw [grp_add, if_neg hx, List.append_nil]
  have keyt : grp (ps ++ [(s, v)]) s = [v] := by rw [grp_add, if_pos rfl, hb]; rfl
  refine ⟨fun a u ha => ?_, e.fd, hD, (e.dm.put s (.ref p)).congr fun x => ?_, fun x hx => ?_, fun x hx => ?_, fun x y hx hy hxy => ?_⟩
  · rw [hh a (ne_of_none ha e.fd) (ne_of_none ha a1)]
    exact e.same a u ha
  · unfold gf
    by_cases h : x = s
    · subst h
      rw [keyt]
      simp
    · rw [key x h]
      simp [h]
  · by_cases h : x = s
    · simp only [h, if_true]; exact a1
    · simp only [h, if_false]
      rw [key x h] at hx
      exact e.fl x hx
  · by_cases h : x = s
    · subst h
      rw [keyt]
      simp only [if_true]
      exact hP
    · rw [key x h] at hx ⊢
      simp only [h, if_false]
      rw [hh _ (e.neD hx) (a3 x hx).symm]
      exact e.l x hx
  · by_cases h : x = s
    · by_cases k : y = s
      · rw [h, k]
      · rw [key y k] at hy
        simp only [h, k, if_true, if_false] at hxy
        exact absurd hxy (a3 y hy)
    · rw [key x h] at hx
      by_cases k : y = s
      · simp only [h, k, if_true, if_false] at hxy
        exact absurd hxy.symm (a3 x hx)
      · rw [key y k] at hy
        simp only [h, k, if_false] at hxy
        exact e.inj x y hx hy hxy
/-- a known key -/
theorem GD.old (e : GD H0 H D kvs ps pt) {s : Int} {v : V} {H' : Hp} (hb : grp ps s ≠ []) (hP : H' (pt s) = some (.lst (grp ps s ++ [v]))) (hh : ∀ a, a ≠ pt s → H' a = H a) : GD H0 H' D kvs (ps ++ [(s, v)]) pt := by
  have key : ∀ x, ¬ x = s → grp (ps ++ [(s, v)]) x = grp ps x := fun x hx => by rw [grp_add, if_neg hx, List.append_nil]
  have keyt : grp (ps ++ [(s, v)]) s = grp ps s ++ [v] := by rw [grp_add, if_pos rfl]
  have keyn : ∀ x, grp (ps ++ [(s, v)]) x = [] ↔ grp ps x = [] := fun x => by
    by_cases h : x = s
    · subst h
      rw [keyt]
      simp [hb]
    · rw [key x h]
  refine ⟨fun a u ha => ?_, e.fd, by rw [hh _ (e.neD hb).symm]; exact e.at_, e.dm.congr fun x => ?_, fun x hx => e.fl x fun z => hx ((keyn x).mpr z), fun x hx => ?_, fun x y hx hy => e.inj x y (fun z => hx ((keyn x).mpr z)) fun z => hy ((keyn y).mpr z)⟩
  · rw [hh a (ne_of_none ha (e.fl s hb))]
    exact e.same a u ha
  · unfold gf
    by_cases h : grp ps x = []
    · rw [if_pos h, if_pos ((keyn x).mpr h)]
    · rw [if_neg h, if_neg fun z => h ((keyn x).mp z)]
  · have hx' : grp ps x ≠ [] := fun z => hx ((keyn x).mpr z)
    by_cases h : x = s
    · subst h
      rw [hP, keyt]
    · rw [key x h, hh _ fun z => h (e.inj x s hx' hb z)]
      exact e.l x hx'
/-- d.setdefault(s, []).append(v): after the setdefault the list stands at l; behind the append the group holds v, too -/
theorem GD.setd (e : GD H0 H D kvs ps pt) (s : Int) (hl : kvs.length < sizeLine) {Q : VK} {q : Addr} (hq : H q = none)
    (k : ∀ (l : Addr) (H' : Hp) (kvs' : List (Key × V)) (xs : List V), Same H0 H' → H' l = some (.lst xs) → xs.length ≤ ps.length → H0 l = none → (∀ p, H' p = none → p ≠ l ∧ H p = none) → (∀ b o, b ≠ D → H b = some o → H' b = some o) →
      (∀ (v : V) (H2 : Hp) (H1 : Hp), Same H0 H1 → H1 D = none → H1 l = none → (∀ x, grp ps x ≠ [] → H1 (pt x) = none) → Same H1 H2 → (∀ a, H' a ≠ none → H2 a = H' a) → ∃ pt', GD H1 (upd H2 l (.lst (xs ++ [v]))) D kvs' (ps ++ [(s, v)]) pt') → Q (.ref l) H') :
    ∃ (kvs' : List (Key × V)) (k' : Key), (upd H q (.lst [])) D = some (.dK kvs') ∧ V.int s = kV k' ∧ kvs'.length < sizeLine ∧ (∀ v, valV kvs' k' = some v → Q v (upd H q (.lst []))) ∧ (valV kvs' k' = none → Q (.ref q) (upd (upd H q (.lst [])) D (.dK (putK kvs' k' (.ref q))))) := by
  obtain ⟨q1, q2, q3⟩ := e.free hq
  refine ⟨kvs, Sum.inl s, by rw [upd_ne q2.symm]; exact e.at_, rfl, hl, fun v hv => ?_, fun hn => ?_⟩
  · rw [e.dm.val s] at hv
    have hb : grp ps s ≠ [] := fun z => by unfold gf at hv; rw [if_pos z] at hv; cases hv
    obtain rfl : V.ref (pt s) = v := by unfold gf at hv; rw [if_neg hb] at hv; exact Option.some.inj hv
    have e2 := e.junk (o := .lst []) hq
    refine k (pt s) _ kvs (grp ps s) e2.same (e2.l s hb) (grp_le ps s) (e.fl s hb) (fun p hp => ?_) (fun b o _ hbo => by rw [upd_ne (ne_of_none hbo hq)]; exact hbo) fun v H2 H1 S1 f1 f2 f3 S2 hk => ⟨pt, ?_⟩
    · have pq : p ≠ q := fun z => by rw [z, upd_same] at hp; cases hp
      exact ⟨(fun z => by rw [z, e2.l s hb] at hp; cases hp), (by rw [upd_ne pq] at hp; exact hp)⟩
    · have e3 : GD H1 H2 D kvs ps pt := ⟨S2, f1, by rw [hk D (by rw [e2.at_]; exact Option.some_ne_none _)]; exact e2.at_, e.dm, fun x hx => f3 x hx, fun x hx => by rw [hk _ (by rw [e2.l x hx]; exact Option.some_ne_none _)]; exact e2.l x hx, e.inj⟩
      exact e3.old hb upd_same fun a ha => upd_ne ha
  · rw [e.dm.val s] at hn
    have hb : grp ps s = [] := Classical.byContradiction fun z => by unfold gf at hn; rw [if_neg z] at hn; cases hn
    have hqD : (upd (upd H q (.lst [])) D (.dK (putK kvs (Sum.inl s) (.ref q)))) q = some (.lst []) := by rw [upd_ne q2, upd_same]
    refine k q _ (putK kvs (Sum.inl s) (.ref q)) [] (fun b o hb2 => by rw [upd_ne (ne_of_none hb2 e.fd), upd_ne (ne_of_none hb2 q1)]; exact e.same b o hb2) hqD (Nat.zero_le _) q1 (fun p hp => ?_) (fun b o hbD hbo => by rw [upd_ne hbD, upd_ne (ne_of_none hbo hq)]; exact hbo) fun v H2 H1 S1 f1 f2 f3 S2 hk => ?_
    · have pD : p ≠ D := fun z => by rw [z, upd_same] at hp; cases hp
      rw [upd_ne pD] at hp
      have pq : p ≠ q := fun z => by rw [z, upd_same] at hp; cases hp
      rw [upd_ne pq] at hp
      exact ⟨pq, hp⟩
    · have hDD : (upd (upd H q (.lst [])) D (.dK (putK kvs (Sum.inl s) (.ref q)))) D = some (.dK (putK kvs (Sum.inl s) (.ref q))) := upd_same
      have hl2 : ∀ x, grp ps x ≠ [] → H2 (pt x) = some (.lst (grp ps x)) := fun x hx => by
        have : (upd (upd H q (.lst [])) D (.dK (putK kvs (Sum.inl s) (.ref q)))) (pt x) = some (.lst (grp ps x)) := by rw [upd_ne (e.neD hx), upd_ne (q3 x hx).symm]; exact e.l x hx
        rw [hk _ (by rw [this]; exact Option.some_ne_none _)]
        exact this
      -- the heap before the two writings, as if
      have e3 : GD H1 (fun a => if a = D then some (.dK kvs) else if a = q then none else H2 a) D kvs ps pt := by
        refine ⟨fun a u ha => ?_, f1, by simp, e.dm, f3, fun x hx => ?_, e.inj⟩
        · have aD : a ≠ D := ne_of_none ha f1
          have aq : a ≠ q := ne_of_none ha f2
          simp only [aD, aq, if_false]
          exact S2 a u ha
        · have h1 := e.neD hx
          have h2 := (q3 x hx).symm
          simp only [h1, h2, if_false]
          exact hl2 x hx
      refine ⟨_, e3.new hb (by simp [q2]) ?_ (by rw [upd_same]; rfl) fun a h1 h2 => ?_⟩
      · rw [upd_ne q2.symm, hk D (by rw [hDD]; exact Option.some_ne_none _)]
        exact hDD
      · rw [upd_ne h2]
        simp [h1, h2]
theorem GD.setT (e : GD H0 H D kvs ps pt) {i j : Nat} {σ : L2.St} {s : Int} (hi : σ[i]? = some (some (.ref D))) (hj : σ[j]? = some (some (.int s))) (hl : kvs.length < sizeLine) {Q : VK}
    (k : ∀ (l : Addr) (H' : Hp) (kvs' : List (Key × V)) (xs : List V), Same H0 H' → H' l = some (.lst xs) → xs.length ≤ ps.length → H0 l = none → (∀ p, H' p = none → p ≠ l ∧ H p = none) → (∀ b o, b ≠ D → H b = some o → H' b = some o) →
      (∀ (v : V) (H2 : Hp) (H1 : Hp), Same H0 H1 → H1 D = none → H1 l = none → (∀ x, grp ps x ≠ [] → H1 (pt x) = none) → Same H1 H2 → (∀ a, H' a ≠ none → H2 a = H' a) → ∃ pt', GD H1 (upd H2 l (.lst (xs ++ [v]))) D kvs' (ps ++ [(s, v)]) pt') → Q (.ref l) H') :
    tDSetd (tVar i) (tVar j) (tLst tNil) σ H Q := ⟨.ref D, hi, D, rfl, .inl ⟨kvs, .inl e.at_⟩, .int s, hj, Nat.zero_le _, fun q hq => e.setd s hl hq k⟩
end
end LB

/-! Rows (source, label, target) on the heap; as keys, as data; lists of them in the making. -/
namespace K24
open PySem PySem.Spec L2 KS GL LB
open PyProof.Rows hiding cnt
/-- a row: source, label, target -/
abbrev Row := Int × Str × Int
def rowV (r : Row) : List V := [.int r.1, .str r.2.1, .int r.2.2]
def RowsAt (K : PySem.W.Frag) (H : Hp) (rs : List (Addr × Row)) : Prop := ∀ p ∈ rs, SqT K H p.1 (rowV p.2)
theorem sameT {K : PySem.W.Frag} {H H' : Hp} {a : Addr} {xs : List V} (e : Same H H') (h : SqT K H a xs) : SqT K H' a xs := by
  rcases h with (h | ⟨o, h⟩) | h
  · exact .inl (.inl (e _ _ h))
  · exact .inl (.inr ⟨o, e _ _ h⟩)
  · exact .inr h
theorem RowsAt.mono {K : PySem.W.Frag} {H H' : Hp} {rs : List (Addr × Row)} (h : RowsAt K H rs) (e : Same H H') : RowsAt K H' rs := fun p hp => sameT e (h p hp)
/-- numbers and labels of bounded size -/
def Small (x : Int) : Prop := -(2 ^ 80) ≤ x ∧ x ≤ 2 ^ 80
/-- of bounded size, and -1 or one of M -/
def InM (M : List Int) (x : Int) : Prop := Small x ∧ (x = -1 ∨ x ∈ M)
def Lbl (r : Row) : Prop := r.2.1.length ≤ 8 ∧ PyData.strOk r.2.1 = true
def Good (M : List Int) (r : Row) : Prop := InM M r.1 ∧ Lbl r ∧ InM M r.2.2
theorem ints_at {xs : List Int} {j : Nat} (h : j < xs.length) : (xs.map V.int)[j]? = some (.int xs[j]) := by
  rw [List.getElem?_map, List.getElem?_eq_getElem h]
  rfl
def rowRefs (rs : List (Addr × Row)) : List V := rs.map fun q => V.ref q.1
def rowK (r : Row) : List Key := [.inl r.1, .inr r.2.1, .inl r.2.2]
theorem rowK_V (r : Row) : (rowK r).map kV = rowV r := rfl
theorem rowK_inj {r q : Row} (h : rowK r = rowK q) : r = q := by
  obtain ⟨a, b, c⟩ := r
  obtain ⟨a', b', c'⟩ := q
  unfold rowK at h
  injection h with h1 h
  injection h with h2 h
  injection h with h3 _
  injection h1 with h1
  injection h2 with h2
  injection h3 with h3
  simp only at h1 h2 h3
  rw [h1, h2, h3]
def rowD (r : Row) : PyData := .tuple [.int r.1, .str r.2.1, .int r.2.2]
theorem enc_row (r : Row) : encK (rowK r) = rowD r := rfl
theorem alike_rows (r q : Row) : W.alike (encK (rowK r)) (encK (rowK q)) = true := by
  rw [enc_row, enc_row]
  unfold rowD
  simp [W.alike, W.alikeAll]
def keyed (rs : List (Addr × Row)) : List (Addr × List Key) := rs.map fun q => (q.1, rowK q.2)
theorem keyed_refs (rs : List (Addr × Row)) : ((keyed rs).map fun p => V.ref p.1) = rowRefs rs := by
  unfold keyed rowRefs
  rw [List.map_map]
  rfl
/-- members of a list of keyed rows come from rows -/
theorem unkey {rs : List (Addr × Row)} : ∀ {L : List (Addr × List Key)}, (∀ p ∈ L, p ∈ keyed rs) → ∃ rs1 : List (Addr × Row), L = keyed rs1 ∧ ∀ q ∈ rs1, q ∈ rs
  | [], _ => ⟨[], rfl, fun _ h => (nomatch h)⟩
  | p :: L, h => by
    obtain ⟨rs1, e, hs⟩ := unkey (L := L) fun q hq => h q (List.mem_cons_of_mem _ hq)
    obtain ⟨q, hq, eq⟩ := List.mem_map.mp (h p List.mem_cons_self)
    refine ⟨q :: rs1, ?_, fun z hz => ?_⟩
    · unfold keyed at e ⊢
      rw [List.map_cons, ← eq, e]
    · rcases List.mem_cons.mp hz with rfl | hz
      · exact hq
      · exact hs z hz
theorem key_mem {rs : List (Addr × Row)} {r : Row} : rowK r ∈ (keyed rs).map (·.2) ↔ r ∈ rs.map (·.2) := by
  unfold keyed
  rw [List.map_map]
  constructor
  · intro h
    obtain ⟨q, hq, e⟩ := List.mem_map.mp h
    exact List.mem_map.mpr ⟨q, hq, rowK_inj e⟩
  · intro h
    obtain ⟨q, hq, e⟩ := List.mem_map.mp h
    exact List.mem_map.mpr ⟨q, hq, by rw [← e]; rfl⟩
theorem dp_row {K : PySem.W.Frag} {H : Hp} {a : Addr} {r : Row} (h : SqT K H a (rowV r)) : Dp K H (.ref a) (rowD r) := .tup h (.cons (.int _) (.cons (.str _) (.cons (.int _) .nil)))
theorem dp_rows {K : PySem.W.Frag} {H : Hp} : ∀ {rs : List (Addr × Row)}, RowsAt K H rs → DpAll K H (rowRefs rs) (rs.map fun q => rowD q.2)
  | [], _ => .nil
  | p :: rs, h => .cons (dp_row (h p List.mem_cons_self)) (dp_rows fun q hq => h q (List.mem_cons_of_mem _ hq))
theorem lay_rows : ∀ rs : List (Addr × Row), (∀ q ∈ rs, Lbl q.2) → PyData.canLayAll0 (rs.map fun q => rowD q.2) = true
  | [], _ => by simp [PyData.canLayAll0]
  | p :: rs, h => by
    rw [List.map_cons, PyData.canLayAll0, lay_rows rs fun q hq => h q (List.mem_cons_of_mem _ hq)]
    have z := (h p List.mem_cons_self).2
    simp [rowD, PyData.canLay0, PyData.canLayAll0, z]
theorem depth_row (r : Row) : (rowD r).depth = 1 := by
  unfold rowD
  simp [PyData.depth, PyData.depthAll]
theorem depth_rows : ∀ rs : List (Addr × Row), PyData.depthAll (rs.map fun q => rowD q.2) ≤ 1
  | [] => by simp [PyData.depthAll]
  | p :: rs => by
    have := depth_rows rs
    rw [List.map_cons, PyData.depthAll, depth_row]
    omega
theorem shaped_rows (rs : List (Addr × Row)) (hg : ∀ q ∈ rs, Lbl q.2) : SeqAt.shaped (PyData.list (rs.map fun q => rowD q.2)) = true := by
  unfold SeqAt.shaped
  have := depth_rows rs
  rw [PyData.canLay0, lay_rows rs hg, PyData.depth, Bool.true_and, decide_eq_true_eq]
  omega
theorem eqv_list_nil (l : List PyData) : PyData.eqv (PyData.list l) (PyData.list []) = l.isEmpty := by
  cases l with
  | nil => simp [PyData.eqv, PyData.eqvAll]
  | cons x l => simp [PyData.eqv, PyData.eqvAll]
theorem erase_map {α β : Type} (f : α → β) : ∀ (l : List α) (j : Nat), (l.map f).eraseIdx j = (l.eraseIdx j).map f
  | [], _ => rfl
  | _ :: _, 0 => rfl
  | x :: l, j + 1 => by
    show f x :: (l.map f).eraseIdx j = f x :: (l.eraseIdx j).map f
    rw [erase_map f l j]
theorem mem_take_out {α : Type} {x : α} : ∀ {l : List α} {j : Nat} (hj : j < l.length), x ∈ l ↔ x = l[j] ∨ x ∈ l.eraseIdx j
  | y :: l, 0, _ => List.mem_cons
  | y :: l, j + 1, hj => by
    show x ∈ y :: l ↔ x = l[j]'(Nat.lt_of_succ_lt_succ hj) ∨ x ∈ y :: l.eraseIdx j
    rw [List.mem_cons, List.mem_cons, mem_take_out (Nat.lt_of_succ_lt_succ hj)]
    constructor
    · rintro (h | h | h)
      · exact .inr (.inl h)
      · exact .inl h
      · exact .inr (.inr h)
    · rintro (h | h | h)
      · exact .inr (.inl h)
      · exact .inl h
      · exact .inr (.inr h)
theorem shaped_nil : SeqAt.shaped (PyData.list []) = true := shaped_ints []
/-- a list of rows that is being made -/
structure LM (K : PySem.W.Frag) (M : List Int) (H1 H : Hp) (d c p : Addr) (rs : List (Addr × Row)) (m : Nat) : Prop where
  n1 : H1 p = none
  pd : p ≠ d
  pc : p ≠ c
  at_ : H p = some (.lst (rowRefs rs))
  rows : RowsAt K H1 rs
  good : ∀ q ∈ rs, Good M q.2
  bk : Bk H1 H d c m
theorem rowRefs_len (rs : List (Addr × Row)) : (rowRefs rs).length = rs.length := by
  unfold rowRefs
  rw [List.length_map]
theorem rowRefs_add (rs rs2 : List (Addr × Row)) : rowRefs (rs ++ rs2) = rowRefs rs ++ rowRefs rs2 := by
  unfold rowRefs
  rw [List.map_append]
section
variable {K : PySem.W.Frag} {M : List Int} {H1 H : Hp} {d c p : Addr} {rs : List (Addr × Row)} {m : Nat}
theorem LM.mono {m' : Nat} (L : LM K M H1 H d c p rs m) (h : m ≤ m') : LM K M H1 H d c p rs m' := ⟨L.n1, L.pd, L.pc, L.at_, L.rows, L.good, L.bk.mono h⟩
theorem LM.row {r : Addr} {x : Row} (L : LM K M H1 H d c p rs m) (hr : H r = none) (hg : Good M x) :
    Same H1 (upd H1 r (.tup (rowV x))) ∧ (upd H r (.tup (rowV x))) p = some (.lst (rowRefs rs)) ∧ LM K M (upd H1 r (.tup (rowV x))) (upd (upd H r (.tup (rowV x))) p (.lst (rowRefs rs ++ [.ref r]))) d c p (rs ++ [(r, x)]) m := by
  obtain ⟨r1, r2, r3⟩ := L.bk.newL hr
  have rp : p ≠ r := ne_of_none L.at_ hr
  have S := same_upd (o := .tup (rowV x)) r3
  have n6 : (upd H1 r (.tup (rowV x))) p = none := by rw [upd_ne rp]; exact L.n1
  have B := ((L.bk.junk (o := .tup (rowV x)) r3 r1 r2).keep upd_same r1 r2).junk (p := p) (o := .lst (rowRefs rs ++ [.ref r])) n6 L.pd L.pc
  refine ⟨S, by rw [upd_ne rp]; exact L.at_, n6, L.pd, L.pc, ?_, fun z hz => ?_, fun z hz => ?_, B⟩
  · rw [upd_same, rowRefs_add]
    rfl
  · rcases List.mem_append.mp hz with h | h
    · exact sameT S (L.rows z h)
    · rw [List.mem_singleton.mp h]
      exact .inl (.inl upd_same)
  · rcases List.mem_append.mp hz with h | h
    · exact L.good z h
    · rw [List.mem_singleton.mp h]
      exact hg
/-- an int of a list, by any index that lies in it -/
theorem atI_ints {xs : List Int} {i : Int} (h1 : -(xs.length : Int) ≤ i) (h2 : i < xs.length) : ∃ x, x ∈ xs ∧ atI (xs.map V.int) i = some (.int x) := by
  have : ∃ j : Nat, j < xs.length ∧ ixN (xs.map V.int).length i = some j := by
    unfold ixN
    rw [List.length_map]
    by_cases h : 0 ≤ i
    · exact ⟨i.toNat, by omega, by rw [if_pos h, if_pos h2]⟩
    · exact ⟨(i + xs.length).toNat, by omega, by rw [if_neg h, if_pos h1]⟩
  obtain ⟨j, hj, e⟩ := this
  refine ⟨xs[j], List.getElem_mem hj, ?_⟩
  unfold atI
  rw [e]
  exact ints_at hj
end
def edges : List Row → List (Int × Int)
  | [] => []
  | r :: l => if r.2.2 = -1 then edges l else (r.1, r.2.2) :: edges l
theorem edges_snoc (r : Row) : ∀ l : List Row, edges (l ++ [r]) = edges l ++ (if r.2.2 = -1 then [] else [(r.1, r.2.2)])
  | [] => by
    show edges [r] = _
    unfold edges
    split <;> simp [edges]
  | q :: l => by
    show edges (q :: (l ++ [r])) = edges (q :: l) ++ _
    rw [edges, edges, edges_snoc r l]
    split <;> simp
theorem edges_len : ∀ l : List Row, (edges l).length ≤ l.length
  | [] => Nat.le_refl _
  | r :: l => by
    have := edges_len l
    unfold edges
    split <;> simp <;> omega
theorem int_shown {x : Int} (h : Small x) : (PyData.shown (.int x)).length ≤ 30 := by
  have h1 : x.natAbs < 10 ^ 25 := by
    obtain ⟨a, b⟩ := h
    have : x.natAbs ≤ 2 ^ 80 := by omega
    exact Nat.lt_of_le_of_lt this (by decide)
  have e := int_text_length_le10 (k := 25) (by decide) h1
  show (Str.ofString (toString x)).length ≤ 30
  rw [PySem.ofString_length]
  omega
theorem int_log {x : Int} (h : Small x) : x.natAbs.log2 ≤ 80 := by
  obtain ⟨a, b⟩ := h
  have h1 : x.natAbs < 2 ^ 81 := by omega
  by_cases h0 : x.natAbs = 0
  · rw [h0]
    decide
  · exact Nat.le_of_lt_succ ((Nat.log2_lt h0).mpr h1)
theorem int_weight {x : Int} (h : Small x) : PyData.weight (.int x) ≤ 81 := by
  have := int_log h
  unfold PyData.weight
  split <;> omega
theorem lay_row {r : Row} (h : Lbl r) : (rowD r).canLay0 = true := by
  have z := h.2
  simp [rowD, PyData.canLay0, PyData.canLayAll0, z]
theorem row_short {M : List Int} {r : Row} (h : Good M r) : (rowD r).leavesShort 30 = true := by
  refine PyData.leavesShort_of_canLay0 30 _ (lay_row h.2.1) ?_
  have h1 := int_shown h.1.1
  have h2 := int_shown h.2.2.1
  simp [rowD, PyData.intsShort, PyData.intsShortAll, h1, h2]
theorem row_show {M : List Int} {r : Row} (h : Good M r) : (rowD r).showable = true := by
  have h1 := int_log h.1.1
  have h2 := int_log h.2.2.1
  simp [rowD, PyData.showable, PyData.showableAll]
  omega
theorem row_weight {M : List Int} {r : Row} (h : Good M r) : (rowD r).weight ≤ 173 := by
  have h1 := int_weight h.1.1
  have h2 := int_weight h.2.2.1
  have h3 : PyData.weight (.str r.2.1) ≤ 8 := h.2.1.1
  unfold rowD
  rw [PyData.weight, PyData.weightAll, PyData.weightAll, PyData.weightAll, PyData.weightAll]
  omega
def rowsD (rs : List (Addr × Row)) : PyData := .tuple (rs.map fun q => rowD q.2)
theorem rows_short {M : List Int} : ∀ rs : List (Addr × Row), (∀ q ∈ rs, Good M q.2) → PyData.leavesShortAll 30 (rs.map fun q => rowD q.2) = true
  | [], _ => rfl
  | q :: rs, h => by
    rw [List.map_cons, PyData.leavesShortAll, row_short (h q List.mem_cons_self), rows_short rs fun x hx => h x (List.mem_cons_of_mem _ hx)]
    rfl
theorem rows_show {M : List Int} : ∀ rs : List (Addr × Row), (∀ q ∈ rs, Good M q.2) → PyData.showableAll (rs.map fun q => rowD q.2) = true
  | [], _ => rfl
  | q :: rs, h => by
    rw [List.map_cons, PyData.showableAll, row_show (h q List.mem_cons_self), rows_show rs fun x hx => h x (List.mem_cons_of_mem _ hx)]
    rfl
theorem rows_weight {M : List Int} : ∀ rs : List (Addr × Row), (∀ q ∈ rs, Good M q.2) → PyData.weightAll (rs.map fun q => rowD q.2) ≤ 174 * rs.length
  | [], _ => Nat.le_refl _
  | q :: rs, h => by
    have h1 := row_weight (h q List.mem_cons_self)
    have h2 := rows_weight rs fun x hx => h x (List.mem_cons_of_mem _ hx)
    rw [List.map_cons, PyData.weightAll, List.length_cons]
    omega
theorem rows_len {M : List Int} {rs : List (Addr × Row)} (h : ∀ q ∈ rs, Good M q.2) (hl : rs.length ≤ 76) : (rowsD rs).shown.length ≤ sizeLine := by
  have h1 := PyData.shown_le 30 (by decide) (rowsD rs) (rows_short rs h)
  have h2 : (rowsD rs).weight ≤ 174 * rs.length := rows_weight rs h
  rw [sizeLine_eq]
  omega
theorem rows_depth (rs : List (Addr × Row)) : (rowsD rs).depth ≤ 60 := by
  have := depth_rows rs
  unfold rowsD
  rw [PyData.depth]
  omega
/-- the truths -/
def blsD (bs : List Bool) : PyData := .list (bs.map .bool)
theorem bls_dp {K : PySem.W.Frag} {H : Hp} : ∀ bs : List Bool, DpAll K H (bs.map V.bl) (bs.map .bool)
  | [] => .nil
  | b :: bs => .cons (.bl b) (bls_dp bs)
theorem bls_show : ∀ bs : List Bool, PyData.showableAll (bs.map .bool) = true
  | [] => rfl
  | b :: bs => by
    rw [List.map_cons, PyData.showableAll, bls_show bs]
    rfl
theorem bls3 (a b c : Bool) : (blsD [a, b, c]).shown.length ≤ sizeLine ∧ (blsD [a, b, c]).depth ≤ 60 := by
  refine ⟨Nat.le_trans (?_ : _ ≤ 30) (by rw [sizeLine_eq]; decide), ?_⟩
  · cases a <;> cases b <;> cases c <;> decide +kernel
  · cases a <;> cases b <;> cases c <;> decide +kernel
theorem bls_last : (blsD [false, false, true]).shown = ("[False, False, True]" : Str) := by decide +kernel
theorem _root_.LB.Bk.on {H0 H H' : Hp} {d c : Addr} {n : Nat} (B : Bk H0 H d c n) (S : Same H H') : Bk H0 H' d c n := by
  obtain ⟨⟨ns, m, t, a1, a2, a3⟩⟩ := B.dk
  exact ⟨B.same.trans S, B.hd, B.hc, ⟨ns, m, t, S _ _ a1, S _ _ a2, a3⟩⟩
theorem edges_in {l l' : List Row} (h : ∀ r, r ∈ l' ↔ r ∈ l) : ∀ e, e ∈ edges l' ↔ e ∈ edges l := by
  have mem : ∀ (l : List Row) e, e ∈ edges l ↔ ∃ r ∈ l, r.2.2 ≠ -1 ∧ e = (r.1, r.2.2) := by
    intro l e
    induction l with
    | nil => exact ⟨fun h => (nomatch h), fun ⟨_, h, _⟩ => (nomatch h)⟩
    | cons r l ih =>
      unfold edges
      by_cases h1 : r.2.2 = -1
      · rw [if_pos h1, ih]
        constructor
        · rintro ⟨x, hx, h2⟩
          exact ⟨x, List.mem_cons_of_mem _ hx, h2⟩
        · rintro ⟨x, hx, h2, h3⟩
          rcases List.mem_cons.mp hx with rfl | hx
          · exact absurd h1 h2
          · exact ⟨x, hx, h2, h3⟩
      · rw [if_neg h1, List.mem_cons, ih]
        constructor
        · rintro (rfl | ⟨x, hx, h2⟩)
          · exact ⟨r, List.mem_cons_self, h1, rfl⟩
          · exact ⟨x, List.mem_cons_of_mem _ hx, h2⟩
        · rintro ⟨x, hx, h2, h3⟩
          rcases List.mem_cons.mp hx with rfl | hx
          · exact .inl h3
          · exact .inr ⟨x, hx, h2, h3⟩
  intro e
  rw [mem, mem]
  constructor
  · rintro ⟨r, hr, h2⟩
    exact ⟨r, (h r).mp hr, h2⟩
  · rintro ⟨r, hr, h2⟩
    exact ⟨r, (h r).mpr hr, h2⟩
end K24

/-! Loops over what is a list or a tuple. -/
namespace LB
open PySem PySem.Spec PyProof.Rows L2 KS GL
abbrev SqQ (K : PySem.W.Frag) (H : Hp) (a : Addr) (xs : List V) : Prop := SqL K H a xs ∨ SqT K H a xs
theorem sqT_mono {K : PySem.W.Frag} {H H' : Hp} {a : Addr} {xs : List V} (s : Same H H') (h : SqT K H a xs) : SqT K H' a xs := by
  rcases h with (z | ⟨o, z⟩) | z
  · exact .inl (.inl (s _ _ z))
  · exact .inl (.inr ⟨o, s _ _ z⟩)
  · exact .inr z
theorem SqQ.mono {K : PySem.W.Frag} {H H' : Hp} {a : Addr} {xs : List V} (h : SqQ K H a xs) (s : Same H H') : SqQ K H' a xs := h.imp (fun z => s.seq z) fun z => sqT_mono s z
def iSeq (K : PySem.W.Frag) (tl : TE) : TI := fun σ H R => tl σ H fun x H1 => ∃ a, x = .ref a ∧ (((∃ xs, SqL K H1 a xs) ∧ R (Itl K a) H1) ∨ ((∃ xs, SqT K H1 a xs) ∧ R (Itt K a) H1))
theorem pi_seq {X : Cx} {tg : Expr} {l : Expr} {tl : TE} (hl : PE X l tl) : PI X tg l (iSeq X.K tl) := by
  refine ⟨fun pins s σ H R I h => ?_⟩
  refine thn (hl.run pins s σ H _ I h) fun v s1 ⟨x, H1, I1, r1, q1⟩ => ?_
  obtain ⟨a, e, q⟩ := q1
  subst e
  cases r1
  rcases q with ⟨⟨xs, hq⟩, q⟩ | ⟨⟨xs, hq⟩, q⟩
  · obtain ⟨its, rv, p, hz⟩ := I1.list hq
    refine wpAny_pyIter_list p.isList ?_
    refine ⟨s1.heap.objs.size, [s1.heap.objs.size], _, _, H1, rfl, I1.kept (t' := s1.toks) fun b o e => Heap.get?_push_of_some _ e, turn_list a _, ⟨_, Heap.get?_push_size _ rfl, rfl, rfl⟩, fun b hb => ?_, q⟩
    have e : b = s1.heap.objs.size := by simpa using hb
    subst e
    exact I1.fpOk (Nat.le_refl _) (I1.hok.fresh (Nat.le_refl _))
  · obtain ⟨its, rv, p, hz⟩ := I1.tuple hq
    refine wpAny_pyIter_tuple (show s1.heap.IsTuple a its.toArray from p) ?_
    refine ⟨s1.heap.objs.size, [s1.heap.objs.size], _, _, H1, rfl, I1.kept (t' := s1.toks) fun b o e => Heap.get?_push_of_some _ e, turn_tuple a _, ⟨_, Heap.get?_push_size _ rfl, rfl, rfl⟩, fun b hb => ?_, q⟩
    have e : b = s1.heap.objs.size := by simpa using hb
    subst e
    exact I1.fpOk (Nat.le_refl _) (I1.hok.fresh (Nat.le_refl _))
section
variable {K : PySem.W.Frag} {a : Addr} {xs : List V} {H0 H : Hp}
/-- a loop over it -/
theorem for_seq {te : TE} {g : TG} {tb : TS} {D : Ends} {σ : L2.St} (ht : ∀ Q : VK, Q (.ref a) H → te σ H Q) (h : SqQ K H0 a xs) (s : Same H0 H) (Pv : Nat → L2.St → Hp → Prop) (h0 : Pv 0 σ H) (hl : ∀ i σ H, i ≤ xs.length → Pv i σ H → Same H0 H)
    (hs : ∀ i x σ H, xs[i]? = some x → Pv i σ H → g x σ H fun σ2 H2 => tb { D with nx := Pv (i + 1), ct := Pv (i + 1), bk := D.nx } σ2 H2) (hd : ∀ σ H, Pv xs.length σ H → D.nx σ H) : tFor (iSeq K te) g tb D σ H := by
  refine ht _ ⟨a, rfl, ?_⟩
  rcases h with h | h
  · exact .inl ⟨⟨xs, s.seq h⟩, for_list Pv h0 (fun i σ H hi p => (hl i σ H hi p).seq h) hs hd⟩
  · exact .inr ⟨⟨xs, sqT_mono s h⟩, for_tup Pv h0 (fun i σ H hi p => sqT_mono (hl i σ H hi p) h) hs hd⟩
end
end LB

namespace CH
open PySem L2 KS GL LB K24
open PySem.Spec hiding Row
open PyProof.Rows hiding cnt
/-- a step (label, target), made anew, and the row it was made of -/
def prs (qs : List (Addr × Row)) : List (Int × V) := qs.map fun q => (q.2.1, V.ref q.1)
theorem prs_add (qs qs2 : List (Addr × Row)) : prs (qs ++ qs2) = prs qs ++ prs qs2 := List.map_append
def StepsAt (H : Hp) (qs : List (Addr × Row)) : Prop := ∀ q ∈ qs, H q.1 = some (.tup [.str q.2.2.1, .int q.2.2.2])
theorem StepsAt.mono {H H' : Hp} {qs : List (Addr × Row)} (h : StepsAt H qs) (S : Same H H') : StepsAt H' qs := fun q hq => S _ _ (h q hq)
section
variable {P : Program} {w : World} {K : PySem.W.Frag} {mg : Str → Option Value} {base : Heap}
def spSteps (K : PySem.W.Frag) : Sp := fun vs H Q _ => ∃ (a : Addr) (rs : List (Addr × Row)), vs = [.ref a] ∧ SqQ K H a (rowRefs rs) ∧ RowsAt K H rs ∧ rs.length ≤ 200 ∧
  ∀ (D : Addr) (kvs : List (Key × V)) (pt : Int → Addr) (qs : List (Addr × Row)) (H1 H' : Hp), Same H H1 → GD H1 H' D kvs (prs qs) pt → qs.map (·.2) = rs.map (·.2) → StepsAt H1 qs → (∀ q ∈ qs, H q.1 = none) → Q (.ref D) H'
theorem scSteps : FnScope ["arrows", "found", "source", "label", "target"] ["arrows"] (defScope sSteps) := ⟨rfl, rfl, rfl, by decide +kernel, rfl, by decide +kernel, by decide +kernel⟩
theorem row_at {rs : List (Addr × Row)} {i : Nat} {x : V} (h : (rowRefs rs)[i]? = some x) : ∃ hi : i < rs.length, x = .ref rs[i].1 := by
  have hi : i < rs.length := by
    have := (List.getElem?_eq_some_iff.mp h).1
    rwa [rowRefs_len] at this
  refine ⟨hi, ?_⟩
  unfold rowRefs at h
  rw [List.getElem?_map, List.getElem?_eq_getElem hi] at h
  exact (Option.some.inj h).symm
theorem take_row {rs : List (Addr × Row)} {i : Nat} (hi : i < rs.length) : (rs.map (·.2)).take (i + 1) = (rs.map (·.2)).take i ++ [rs[i].2] := by
  rw [List.take_succ, List.getElem?_map, List.getElem?_eq_getElem hi]
  rfl
theorem ok_steps {f : Addr} {fd : FuncData} (F : Fun K "steps_by_source" "steps_by_source" sSteps f fd) : FnOk P w K mg base CX0 1 f fd ["arrows"] (spSteps K) := by
  refine F.ok scSteps (fun vs H Q E h => ?_) (fun cdv A outer s H vs Q E hr h => ?_)
  · obtain ⟨_, _, rfl, _⟩ := h
    rfl
  · obtain ⟨a, rs, rfl, hS, hR, hlen, q⟩ := h
    have hu := hu_of hr
    refine ⟨_, (pss_cons (ps_set (i := 1) scSteps.nd rfl (Or.inl rfl) pe_dnewK)
  (pss_cons (ps_for PassesOwn.never rfl (pi_seq (pv 0)) (pg_tup rfl (pgs_cons (pg_name (i := 2) scSteps.nd rfl (Or.inl rfl)) (pgs_cons (pg_name (i := 3) scSteps.nd rfl (Or.inl rfl)) (pgs_cons (pg_name (i := 4) scSteps.nd rfl (Or.inl rfl)) pgs_nil))))
    (pss_one (ps_expr (pe_bm PySem.F.plainAttrs_list PySem.F.slot_list_append PySem.F.type_list_append mt_append (pe_dsetd (pv 1) (pv 2) (pe_lst pa_nil) ⟨rfl, rfl, rfl, rfl⟩) (pa_cons (pe_tup (pa_cons (pv 3) (pa_cons (pv 4) pa_nil))) pa_nil)))))
  (pss_one (ps_ret (pv 1))))), ?_⟩
    refine fun D hD => for_seq (te := tVar 0) (xs := rowRefs rs) (fun Q h => ⟨.ref a, rfl, h⟩) hS (same_upd hD) (fun i σ H' => ∃ (kvs : List (Key × V)) (pt : Int → Addr) (qs : List (Addr × Row)) (H1 : Hp) (y2 y3 y4 : Option V), σ = [some (.ref a), some (.ref D), y2, y3, y4] ∧ Same H H1 ∧ GD H1 H' D kvs (prs qs) pt ∧
        qs.map (·.2) = (rs.map (·.2)).take i ∧ StepsAt H1 qs ∧ ∀ q ∈ qs, H q.1 = none) ⟨[], _, [], H, none, none, none, rfl, Same.refl _, GD.nil hD, by simp, (fun _ h => (nomatch h)), (fun _ h => (nomatch h))⟩ (fun i σ H' _ ⟨_, _, _, _, _, _, _, _, S, e, _⟩ => S.trans e.same) ?_ ?_
    · rintro i x σ H2 hx ⟨kvs, pt, qs, H1, y2, y3, y4, rfl, S, e, hq, hst, hnw⟩
      obtain ⟨hi, rfl⟩ := row_at hx
      have hrow : SqT K H2 rs[i].1 (rowV rs[i].2) := sameT' (S.trans e.same) (hR rs[i] (List.getElem_mem hi))
      have hql : (prs qs).length ≤ 200 := by
        have := congrArg List.length hq
        rw [List.length_map, List.length_take, List.length_map] at this
        unfold prs
        rw [List.length_map]
        omega
      rw [take_row hi]
      generalize rs[i].1 = p at hrow
      generalize rs[i].2 = r at hrow
      obtain ⟨s, lb, tg⟩ := r
      refine ⟨p, _, rfl, hrow, rfl, _, _, rfl, _, _, rfl, _, _, rfl, rfl, ?_⟩
      have hkl := e.len
      refine e.setT (i := 1) (j := 2) (s := s) rfl rfl (small1000 (by omega)) fun l H3 kvs' xs S3 hl3 hxl hl0 hfree hkeep fin => ?_
      refine ⟨.inl ⟨rfl, _, .inl (.inl hl3)⟩, .str lb, rfl, .int tg, rfl, (show 2 ≤ sizeLine by decide), fun t ht => ?_⟩
      obtain ⟨tl, ht2⟩ := hfree t ht
      obtain ⟨t0, t1, t2⟩ := e.free ht2
      refine ⟨l, xs, .ref t, rfl, rfl, by rw [upd_ne tl.symm]; exact hl3, small1000 (by omega), ?_⟩
      obtain ⟨pt', e4⟩ := fin (.ref t) (upd H3 t (.tup [.str lb, .int tg])) (upd H1 t (.tup [.str lb, .int tg])) (same_upd t0) (by rw [upd_ne t1.symm]; exact e.fd) (by rw [upd_ne tl.symm]; exact hl0) (fun x hx => by rw [upd_ne (t2 x hx).symm]; exact e.fl x hx) (fun b o hb => by
        by_cases hbt : b = t
        · subst hbt
          rw [upd_same] at hb ⊢
          exact hb
        · rw [upd_ne hbt] at hb ⊢
          exact S3 b o hb) (fun b hb => upd_ne fun z => hb (by rw [z]; exact ht))
      refine ⟨kvs', pt', qs ++ [(t, (s, lb, tg))], _, _, _, _, rfl, S.trans (same_upd t0), by rw [prs_add]; exact e4, by rw [List.map_append, hq]; rfl, fun z hz => ?_, fun z hz => (List.mem_append.mp hz).elim (hnw z) fun h => by rw [List.mem_singleton.mp h]; exact S.free t0⟩
      rcases List.mem_append.mp hz with h | h
      · exact same_upd t0 _ _ (hst z h)
      · rw [List.mem_singleton.mp h]
        exact upd_same
    · rintro σ H2 ⟨kvs, pt, qs, H1, y2, y3, y4, rfl, S, e, hq, hst, hnw⟩
      rw [rowRefs_len, ← List.length_map (f := (·.2)) (as := rs), List.take_length] at hq
      exact ⟨.ref D, rfl, q D kvs pt qs H1 H2 S e hq hst hnw⟩
end
end CH

/-! What can be reached, by a list of those that wait; a dict as a set. Plain Lean. -/
namespace LB
open PySem PySem.Spec PyProof.Rows L2
inductive Rch (succ : Int → List Int) : Int → Int → Prop
  | refl {x : Int} : Rch succ x x
  | step {x y z : Int} : Rch succ x y → z ∈ succ y → Rch succ x z
structure Wl (succ : Int → List Int) (st : Int) (F W : List Int) : Prop where
  nd : F.Nodup
  fst : st ∈ F
  sub : ∀ x ∈ W, x ∈ F
  ok : ∀ x ∈ F, Rch succ st x
  done : ∀ x ∈ F, x ∉ W → ∀ y ∈ succ x, y ∈ F
theorem Wl.init (succ : Int → List Int) (st : Int) : Wl succ st [st] [st] :=
  ⟨List.nodup_cons.mpr ⟨(fun h => nomatch h), List.nodup_nil⟩, List.mem_cons_self, fun _ h => h, fun x hx => by rw [List.mem_singleton.mp hx]; exact .refl, fun x hx no => absurd hx no⟩
/-- the turn for x: of ts (the targets so far) those that count (p) are found now -/
structure Wi (p : Int → Bool) (F ts : List Int) (N : List Int) : Prop where
  nd : (F ++ N).Nodup
  new : ∀ y ∈ N, y ∈ ts ∧ p y = true
  all : ∀ y ∈ ts, p y = true → y ∈ F ++ N
theorem Wi.init {p : Int → Bool} {F : List Int} (h : F.Nodup) : Wi p F [] [] := ⟨by simpa using h, fun _ h => (nomatch h), fun _ h => (nomatch h)⟩
theorem Wi.add {p : Int → Bool} {F ts N : List Int} {y : Int} (w : Wi p F ts N) (hp : p y = true) (hy : y ∉ F ++ N) : Wi p F (ts ++ [y]) (N ++ [y]) := by
  refine ⟨?_, fun z hz => ?_, fun z hz hpz => ?_⟩
  · rw [← List.append_assoc]
    refine List.nodup_append.mpr ⟨w.nd, List.nodup_cons.mpr ⟨(fun h => nomatch h), List.nodup_nil⟩, fun a ha b hb e => ?_⟩
    rw [List.mem_singleton] at hb
    subst hb e
    exact hy ha
  · rcases List.mem_append.mp hz with h | h
    · exact ⟨List.mem_append_left _ (w.new z h).1, (w.new z h).2⟩
    · rw [List.mem_singleton.mp h]
      exact ⟨List.mem_append_right _ (List.mem_singleton.mpr rfl), hp⟩
  · rw [← List.append_assoc]
    rcases List.mem_append.mp hz with h | h
    · exact List.mem_append_left _ (w.all z h hpz)
    · exact List.mem_append_right _ h
theorem Wi.skip {p : Int → Bool} {F ts N : List Int} {y : Int} (w : Wi p F ts N) (h : p y = true → y ∈ F ++ N) : Wi p F (ts ++ [y]) N :=
  ⟨w.nd, fun z hz => ⟨List.mem_append_left _ (w.new z hz).1, (w.new z hz).2⟩, fun z hz hpz => by
    rcases List.mem_append.mp hz with h1 | h1
    · exact w.all z h1 hpz
    · rw [List.mem_singleton.mp h1] at hpz ⊢
      exact h hpz⟩
theorem Wl.turn {succ : Int → List Int} {p : Int → Bool} {st x : Int} {F W ts N : List Int} (w : Wl succ st F (W ++ [x])) (hs : ∀ y, y ∈ succ x ↔ y ∈ ts ∧ p y = true) (i : Wi p F ts N) : Wl succ st (F ++ N) (W ++ N) := by
  have hx : x ∈ F := w.sub x (List.mem_append_right _ (List.mem_singleton.mpr rfl))
  refine ⟨i.nd, List.mem_append_left _ w.fst, fun y hy => ?_, fun y hy => ?_, fun y hy no z hz => ?_⟩
  · rcases List.mem_append.mp hy with h | h
    · exact List.mem_append_left _ (w.sub y (List.mem_append_left _ h))
    · exact List.mem_append_right _ h
  · rcases List.mem_append.mp hy with h | h
    · exact w.ok y h
    · exact .step (w.ok x hx) ((hs y).mpr (i.new y h))
  · have hyF : y ∈ F := (List.mem_append.mp hy).resolve_right fun h => no (List.mem_append_right _ h)
    by_cases hyx : y = x
    · subst hyx
      have := (hs z).mp hz
      exact i.all z this.1 this.2
    · refine List.mem_append_left _ (w.done y hyF (fun h => ?_) z hz)
      rcases List.mem_append.mp h with h | h
      · exact no (List.mem_append_left _ h)
      · exact hyx (List.mem_singleton.mp h)
theorem Wl.fin {succ : Int → List Int} {st : Int} {F : List Int} (w : Wl succ st F []) : ∀ x, x ∈ F ↔ Rch succ st x := by
  intro x
  refine ⟨w.ok x, fun h => ?_⟩
  induction h with
  | refl => exact w.fst
  | step _ hz ih => exact w.done _ ih (fun h => nomatch h) _ hz
theorem nodup_len : ∀ (l m : List Int), l.Nodup → (∀ x ∈ l, x ∈ m) → l.length ≤ m.length
  | [], _, _, _ => Nat.zero_le _
  | x :: l, m, nd, h => by
    obtain ⟨m1, m2, rfl⟩ := List.append_of_mem (h x List.mem_cons_self)
    have nd' := List.nodup_cons.mp nd
    have := nodup_len l (m1 ++ m2) nd'.2 fun y hy => by
      rcases List.mem_append.mp (h y (List.mem_cons_of_mem _ hy)) with z | z
      · exact List.mem_append_left _ z
      · rcases List.mem_cons.mp z with rfl | z
        · exact absurd hy nd'.1
        · exact List.mem_append_right _ z
    simp at this ⊢
    omega
/-- all that is found, but the first, is some target -/
theorem Rch.tgt {succ : Int → List Int} {st x : Int} {T : List Int} (h : Rch succ st x) (hT : ∀ y z, z ∈ succ y → z ∈ T) : x = st ∨ x ∈ T := by
  cases h with
  | refl => exact .inl rfl
  | step _ hz => exact .inr (hT _ _ hz)
theorem Wl.few {succ : Int → List Int} {st : Int} {F W T : List Int} (w : Wl succ st F W) (hT : ∀ y z, z ∈ succ y → z ∈ T) : F.length ≤ T.length + 1 := by
  have := nodup_len F (st :: T) w.nd fun x hx => by
    rcases (w.ok x hx).tgt hT with rfl | h
    · exact List.mem_cons_self
    · exact List.mem_cons_of_mem _ h
  simpa using this
/-- a dict that is a set: each member is mapped to True -/
def setf (F : List Int) : Int → Option V := fun x => if x ∈ F then some (.bl true) else none
theorem DM.setAdd {kvs : List (Key × V)} {F : List Int} (d : DM kvs (setf F)) (y : Int) : DM (putK kvs (Sum.inl y) (.bl true)) (setf (F ++ [y])) :=
  (d.put y (.bl true)).congr fun x => by
    unfold setf
    by_cases h : x = y
    · subst h
      simp
    · by_cases h2 : x ∈ F <;> simp [h, h2]
theorem DM.setLen {kvs : List (Key × V)} {F : List Int} (d : DM kvs (setf F)) : kvs.length ≤ F.length := d.size fun s hs => by
  unfold setf at hs
  by_cases h : s ∈ F
  · exact h
  · rw [if_neg h] at hs
    exact absurd rfl hs
theorem setf_some {F : List Int} {x : Int} : (setf F x).isSome = decide (x ∈ F) := by
  unfold setf
  by_cases h : x ∈ F <;> simp [h]
theorem DM.setOne (y : Int) : DM (mergeK [] [((Sum.inl y : Key), V.bl true)]) (setf [y]) := by
  have := (DM.nil.congr (g := setf []) fun _ => rfl).setAdd y
  exact this
end LB

namespace CH
open PySem L2 KS GL LB K24
open PySem.Spec hiding Row
open PyProof.Rows hiding cnt
/-- the targets of s, in order, ends among them -/
def outs (R : List Row) (s : Int) : List Int := (R.filter fun r => decide (r.1 = s)).map (·.2.2)
def sucs (R : List Row) (s : Int) : List Int := (outs R s).filter fun t => decide (t ≠ -1)
theorem shaped_nilL : SeqAt.shaped (PyData.list []) = true := shaped_ints []
section
variable {P : Program} {w : World} {K : PySem.W.Frag} {mg : Str → Option Value} {base : Heap}
/-! ### least_lacking -/
def spLeast : Sp := fun vs H Q _ => ∃ (d : Addr) (kvs : List (Key × V)) (F : List Int), vs = [.ref d] ∧ H d = some (.dK kvs) ∧ DM kvs (setf F) ∧ F.Nodup ∧ ∀ n : Nat, (∀ m : Nat, m < n → (m : Int) ∈ F) → (n : Int) ∉ F → Q (.int n) H
theorem scLeast : FnScope ["found", "state"] ["found"] (defScope sLeast) := ⟨rfl, rfl, rfl, by decide +kernel, rfl, by decide +kernel, by decide +kernel⟩
theorem ok_least {f : Addr} {fd : FuncData} (G : Fun K "least_lacking" "least_lacking" sLeast f fd) : FnOk P w K mg base CX0 1 f fd ["found"] spLeast := by
  refine G.ok scLeast (fun vs H Q E h => ?_) (fun cdv A outer s H vs Q E hr h => ?_)
  · obtain ⟨_, _, _, rfl, _⟩ := h
    rfl
  · obtain ⟨d, kvs, F, rfl, hd, dm, nd, q⟩ := h
    have hu := hu_of hr
    refine ⟨_, (pss_cons (ps_set (i := 1) scLeast.nd rfl (Or.inl rfl) pe_int)
  (pss_cons (ps_while PassesOwn.never (pt_cmp (pc_din hu (pv 1) (pv 0)))
    (pss_one (ps_aug (i := 1) scLeast.nd rfl (Or.inl rfl) pe_int ip_add)))
  (pss_one (ps_ret (pv 1))))), ?_⟩
    refine ⟨fun m σ H' => ∃ n : Nat, σ = [some (.ref d), some (.int n)] ∧ H' = H ∧ (∀ m : Nat, m < n → (m : Int) ∈ F) ∧ m + n = F.length + 1, ⟨_, 0, rfl, rfl, fun m hm => absurd hm (Nat.not_lt_zero m), rfl⟩, ?_⟩
    rintro m σ H' ⟨n, rfl, rfl, hn, hm⟩
    refine ⟨.int n, rfl, .ref d, rfl, d, setf F n, rfl, (by rw [← dm.val n]; exact DGet.k (k := (Sum.inl (n : Int) : Key)) hd), _, rfl, ?_⟩
    rw [setf_some]
    refine ite2 (fun h1 => ?_) (fun h1 => ?_)
    · have hin : (n : Int) ∈ F := of_decide_eq_true h1
      have hlen : n + 1 ≤ F.length := by
        have := nodup_len ((List.range (n + 1)).map Int.ofNat) F (List.Pairwise.map Int.ofNat (fun a b (e : a ≠ b) => fun z => e (Int.ofNat.inj z)) List.nodup_range) fun x hx => by
          obtain ⟨k, hk, rfl⟩ := List.mem_map.mp hx
          have hk := List.mem_range.mp hk
          by_cases e : k = n
          · subst e
            exact hin
          · exact hn k (by omega)
        simpa using this
      refine ⟨fun σ' H'' => ∃ n' : Nat, σ' = [some (.ref d), some (.int n')] ∧ H'' = H' ∧ (∀ m : Nat, m < n' → (m : Int) ∈ F) ∧ n' = n + 1, fun σ' H'' ⟨n', e1, e2, e3, e4⟩ => ⟨F.length - n, by omega, n', e1, e2, e3, by omega⟩, ?_⟩
      refine ⟨.int n, rfl, n, 1, rfl, rfl, n + 1, rfl, rfl, fun k hk => ?_, rfl⟩
      by_cases e : k = n
      · rw [e]; exact hin
      · exact hn k (by omega)
    · have hin : (n : Int) ∉ F := fun h => h1 (decide_eq_true h)
      exact ⟨.int n, rfl, q n hn hin⟩
end
end CH

namespace CH
open PySem L2 KS GL LB K24
open PySem.Spec hiding Row
open PyProof.Rows hiding cnt
theorem grp_prs (qs : List (Addr × Row)) (x : Int) : grp (prs qs) x = (qs.filter fun q => decide (q.2.1 = x)).map fun q => V.ref q.1 := by
  unfold grp prs
  rw [List.filter_map, List.map_map]
  rfl
theorem outs_qs (qs : List (Addr × Row)) (x : Int) : (qs.filter fun q => decide (q.2.1 = x)).map (fun q => q.2.2.2) = outs (qs.map (·.2)) x := by
  unfold outs
  rw [List.filter_map, List.map_map]
  rfl
theorem sucs_tgt {R : List Row} : ∀ y z, z ∈ sucs R y → z ∈ R.map (·.2.2) := by
  intro y z h
  have h1 := (List.mem_filter.mp h).1
  unfold outs at h1
  obtain ⟨r, hr, e⟩ := List.mem_map.mp h1
  exact List.mem_map.mpr ⟨r, (List.mem_filter.mp hr).1, e⟩
/-- the list that d.get(x, []) gives -/
theorem gd_get {H0 H : Hp} {D : Addr} {kvs : List (Key × V)} {ps : List (Int × V)} {pt : Int → Addr} (e : GD H0 H D kvs ps pt) (x : Int) {H' : Hp} (S : Same H H') {g : Addr} (hg : H' g = none) :
    DGet (upd H' g (.lst [])) D (.int x) (gf ps pt x) ∧ ∃ L, (gf ps pt x).getD (.ref g) = .ref L ∧ (upd H' g (.lst [])) L = some (.lst (grp ps x)) ∧ (L = g ∨ H L = some (.lst (grp ps x))) := by
  refine ⟨by rw [← e.dm.val x]; exact DGet.k (k := (Sum.inl x : Key)) (same_upd hg _ _ (S _ _ e.at_)), ?_⟩
  unfold gf
  by_cases hb : grp ps x = []
  · exact ⟨g, by rw [if_pos hb]; rfl, by rw [upd_same, hb], .inl rfl⟩
  · exact ⟨pt x, by rw [if_neg hb]; rfl, same_upd hg _ _ (S _ _ (e.l x hb)), .inr (e.l x hb)⟩
section
variable {P : Program} {w : World} {K : PySem.W.Frag} {mg : Str → Option Value} {base : Heap}
def spReached (K : PySem.W.Frag) : Sp := fun vs H Q _ => ∃ (st : Int) (a : Addr) (rs : List (Addr × Row)), vs = [.int st, .ref a] ∧ SqQ K H a (rowRefs rs) ∧ RowsAt K H rs ∧ rs.length ≤ 200 ∧
  ∀ (d : Addr) (kvs : List (Key × V)) (F : List Int) (H' : Hp), Same H H' → H d = none → H' d = some (.dK kvs) → DM kvs (setf F) → F.Nodup → (∀ x, x ∈ F ↔ Rch (sucs (rs.map (·.2))) st x) → Q (.ref d) H'
theorem scReached : FnScope ["state", "arrows", "steps", "found", "waiting", "label", "target"] ["state", "arrows"] (defScope sReached) := ⟨rfl, rfl, rfl, by decide +kernel, rfl, by decide +kernel, by decide +kernel⟩
theorem ok_reached {f : Addr} {fd : FuncData} (G : Fun K "reached_from" "reached_from" sReached f fd) (C : Cst K mg) (hsteps_by_source : Has P w K mg base "steps_by_source" 1 ["arrows"] (spSteps K)) : FnOk P w K mg base CX0 2 f fd ["state", "arrows"] (spReached K) := by
  refine G.ok scReached (fun vs H Q E h => ?_) (fun cdv A outer s H vs Q E hr h => ?_)
  · obtain ⟨_, _, _, rfl, _⟩ := h
    rfl
  · obtain ⟨st, a, rs, rfl, hS, hR, hlen, q⟩ := h
    have hu := hu_of hr
    have hu64 := hr.units
    obtain ⟨u2, g2, r2⟩ := C.c_END
    refine ⟨_, (pss_cons (ps_par3 (i := 2) (j := 3) (l := 4) rfl scReached.nd rfl rfl rfl (by decide) (by decide) (by decide) rfl rfl rfl (pa_cons (pe_has hsteps_by_source (hr.mono (by decide)) rfl (pa_cons (pv 1) pa_nil)) (pa_cons (pe_disp (pps_cons (pv 0) pe_bl pps_nil) (by rfl) (by rfl) (fun z => by cases z) (by decide)) (pa_cons (pe_lst (pa_cons (pv 0) pa_nil)) pa_nil))) (by rfl))
  (pss_cons (ps_while PassesOwn.never (pt_cmpR (op_neD hu64) (pv 4) (pe_lst pa_nil) (nomark _))
    (pss_one (ps_for PassesOwn.never rfl (pi_list (pe_dget2 hu (pv 2) (pe_bm0 PySem.F.plainAttrs_list PySem.F.slot_list_pop PySem.F.type_list_pop mt_pop (pv 4)) (pe_lst pa_nil) ⟨rfl, rfl, rfl, rfl⟩)) (pg_tup rfl (pgs_cons (pg_name (i := 5) scReached.nd rfl (Or.inl rfl)) (pgs_cons (pg_name (i := 6) scReached.nd rfl (Or.inl rfl)) pgs_nil)))
    (pss_one (ps_if (PW.pt (pw_and (pt_cmpR op_ne (pv 6) (pe_glob rfl g2 r2) (nomark _)) (pw_and1 (pt_cmp (pc_dnotin hu (pv 6) (pv 3))))))
    (pss_cons (ps_dput hu (pv 3) (pv 6) pe_bl rfl)
  (pss_one (ps_expr (pe_bm PySem.F.plainAttrs_list PySem.F.slot_list_append PySem.F.type_list_append mt_append (pv 4) (pa_cons (pv 6) pa_nil)))))
    pss_nil)))))
  (pss_one (ps_ret (pv 3))))), ?_⟩
    refine ⟨.ref a, rfl, a, rs, rfl, hS, hR, hlen, fun D kvs pt qs H1 Hb S1 gd hq hst _ => fun f hf => ?_⟩
    refine ⟨.int st, rfl, upd_same, [(Sum.inl st, .bl true)], rfl, (show 1 ≤ 15 by decide), .int st, rfl, (show 1 ≤ sizeLine by decide), fun ww hw => ⟨_, _, _, rfl, ?_⟩⟩
    rw [upd_upd] at hw ⊢
    have fw : f ≠ ww := fun e => by rw [← e, upd_same] at hw; cases hw
    have hw0 : Hb ww = none := by rw [upd_ne fw.symm] at hw; exact hw
    have Sb := S1.trans gd.same
    have e1 : (upd (upd Hb f (.dK (mergeK [] [((Sum.inl st : Key), V.bl true)]))) ww (.lst [.int st])) f = some (.dK (mergeK [] [((Sum.inl st : Key), V.bl true)])) := by rw [upd_ne fw, upd_same]
    refine ⟨fun m σ H' => ∃ (kv : List (Key × V)) (F W : List Int) (y5 y6 : Option V), σ = [some (.int st), some (.ref a), some (.ref D), some (.ref f), some (.ref ww), y5, y6] ∧ Same Hb H' ∧ H' f = some (.dK kv) ∧ DM kv (setf F) ∧ H' ww = some (.lst (W.map V.int)) ∧
      Wl (sucs (rs.map (·.2))) st F W ∧ W.length ≤ F.length ∧ m = 2 * (rs.length + 1 - F.length) + W.length, ⟨_, _, [st], [st], none, none, rfl, (same_upd hf).trans (same_upd hw), e1, DM.setOne st, upd_same, Wl.init _ _, Nat.le_refl _, rfl⟩, ?_⟩
    rintro m σ H2 ⟨kv, F, W, y5, y6, rfl, S2, f2, dm2, w2, wl, hWF, rfl⟩
    have hFl : F.length ≤ rs.length + 1 := by
      have := wl.few sucs_tgt
      rwa [List.length_map, List.length_map] at this
    refine ⟨.ref ww, rfl, Nat.zero_le _, fun y hy => ?_⟩
    have wy : ww ≠ y := ne_of_none w2 hy
    have fy : f ≠ y := ne_of_none f2 hy
    have S3 : Same Hb (upd H2 y (.lst [])) := S2.trans (same_upd hy)
    have w3 : (upd H2 y (.lst [])) ww = some (.lst (W.map V.int)) := by rw [upd_ne wy]; exact w2
    have f3 : (upd H2 y (.lst [])) f = some (.dK kv) := by rw [upd_ne fy]; exact f2
    refine ⟨_, _, .lst (.inl (.inl w3)) (dp_ints W), .lst (.inl (.inl upd_same)) .nil, shaped_ints W, shaped_nilL, _, rfl, ?_⟩
    rw [eqv_nil]
    generalize upd H2 y (.lst []) = H3 at S3 w3 f3
    clear S2 f2 w2
    rcases List.eq_nil_or_concat W with rfl | ⟨W', x, rfl⟩
    · refine iteF ?_
      exact ⟨.ref f, rfl, q f kv F H3 (Sb.trans S3) (Sb.free hf) f3 dm2 wl.nd wl.fin⟩
    · simp only [List.concat_eq_append] at w3 wl hWF ⊢
      rw [List.length_append, List.length_singleton] at hWF
      rw [show ((W' ++ [x]).isEmpty) = false by cases W' <;> rfl]
      refine iteT ?_
      refine ⟨fun σ H' => ∃ m', m' < 2 * (rs.length + 1 - F.length) + (W' ++ [x]).length ∧ ∃ (kv : List (Key × V)) (F W : List Int) (y5 y6 : Option V), σ = [some (.int st), some (.ref a), some (.ref D), some (.ref f), some (.ref ww), y5, y6] ∧ Same Hb H' ∧ H' f = some (.dK kv) ∧ DM kv (setf F) ∧ H' ww = some (.lst (W.map V.int)) ∧
        Wl (sucs (rs.map (·.2))) st F W ∧ W.length ≤ F.length ∧ m' = 2 * (rs.length + 1 - F.length) + W.length, fun _ _ h => h, ?_⟩
      have hD3 := S3 _ _ gd.at_
      refine ⟨.ref D, rfl, D, rfl, .inl ⟨kvs, .inl hD3⟩, .ref ww, rfl, .inl ⟨rfl, _, .inl (.inl w3)⟩, ww, _, .int x, rfl, rfl, w3, by simp, Nat.zero_le _, fun g hg => ?_⟩
      have S4 : Same Hb (upd H3 ww (.lst (((W' ++ [x]).map V.int).dropLast))) := fun b o hb => by rw [upd_ne (ne_of_none hb hw0)]; exact S3 b o hb
      have w4 : (upd H3 ww (.lst (((W' ++ [x]).map V.int).dropLast))) ww = some (.lst (W'.map V.int)) := by
        rw [upd_same, List.map_append]
        simp
      have f4 : (upd H3 ww (.lst (((W' ++ [x]).map V.int).dropLast))) f = some (.dK kv) := by rw [upd_ne fw]; exact f3
      generalize (upd H3 ww (.lst (((W' ++ [x]).map V.int).dropLast))) = H4 at S4 w4 f4 hg
      obtain ⟨dg, L, hL, eL, hL2⟩ := gd_get gd x S4 hg
      refine ⟨_, dg, ?_⟩
      rw [hL]
      have wg : ww ≠ g := ne_of_none w4 hg
      have fg : f ≠ g := ne_of_none f4 hg
      have Lf : L ≠ f := by
        rcases hL2 with rfl | h
        · exact fg.symm
        · exact fun e => by rw [e, hf] at h; cases h
      have Lw : L ≠ ww := by
        rcases hL2 with rfl | h
        · exact wg.symm
        · exact fun e => by rw [e, hw0] at h; cases h
      have S5 := S4.trans (same_upd (o := .lst []) hg)
      have w5 : (upd H4 g (.lst [])) ww = some (.lst (W'.map V.int)) := by rw [upd_ne wg]; exact w4
      have f5 : (upd H4 g (.lst [])) f = some (.dK kv) := by rw [upd_ne fg]; exact f4
      generalize upd H4 g (.lst []) = H5 at S5 w5 f5 eL
      rw [grp_prs] at eL
      have hts : (qs.filter fun q => decide (q.2.1 = x)).map (fun q => q.2.2.2) = outs (rs.map (·.2)) x := by rw [outs_qs, hq]
      have hsub : ∀ q ∈ (qs.filter fun q => decide (q.2.1 = x)), q ∈ qs := fun q hq => (List.mem_filter.mp hq).1
      have hxl : (qs.filter fun q => decide (q.2.1 = x)).length ≤ rs.length := by
        have h1 := List.length_filter_le (fun q : Addr × Row => decide (q.2.1 = x)) qs
        have h2 := congrArg List.length hq
        rw [List.length_map, List.length_map] at h2
        omega
      generalize (qs.filter fun q => decide (q.2.1 = x)) = qx at hts hsub hxl eL
      refine ⟨L, rfl, ⟨_, .inl (.inl eL)⟩, for_list (xs := qx.map fun q => V.ref q.1) (fun j σ H' => ∃ (kv : List (Key × V)) (N : List Int) (y5 y6 : Option V), σ = [some (.int st), some (.ref a), some (.ref D), some (.ref f), some (.ref ww), y5, y6] ∧ Same Hb H' ∧ H' f = some (.dK kv) ∧ DM kv (setf (F ++ N)) ∧
        H' ww = some (.lst ((W' ++ N).map V.int)) ∧ H' L = some (.lst (qx.map fun q => V.ref q.1)) ∧ Wi (fun t => decide (t ≠ -1)) F ((qx.map fun q => q.2.2.2).take j) N)
        ⟨kv, [], y5, y6, rfl, S5, f5, by rw [List.append_nil]; exact dm2, by rw [List.append_nil]; exact w5, eL, Wi.init wl.nd⟩ (fun j σ H' _ ⟨_, _, _, _, _, _, _, _, _, h, _⟩ => .inl (.inl h)) ?_ ?_⟩
      · rintro j v σ H6 hv ⟨kv6, N, y5, y6, rfl, S6, f6, dm6, w6, L6, wi⟩
        have hj : j < qx.length := by
          have := (List.getElem?_eq_some_iff.mp hv).1
          rwa [List.length_map] at this
        obtain rfl : V.ref qx[j].1 = v := by
          rw [List.getElem?_map, List.getElem?_eq_getElem hj] at hv
          exact Option.some.inj hv
        have htk : (qx.map fun q => q.2.2.2).take (j + 1) = (qx.map fun q => q.2.2.2).take j ++ [qx[j].2.2.2] := by
          rw [List.take_succ, List.getElem?_map, List.getElem?_eq_getElem hj]
          rfl
        have htup := S6 _ _ (gd.same _ _ (hst _ (hsub _ (List.getElem_mem hj))))
        have hNl : N.length ≤ rs.length := by
          have h1 := nodup_len N (qx.map fun q => q.2.2.2) (List.nodup_append.mp wi.nd).2.1 fun z hz => List.mem_of_mem_take (wi.new z hz).1
          rw [List.length_map] at h1
          omega
        have hWl : W'.length ≤ rs.length + 1 + W'.length := by omega
        rw [htk]
        generalize qx[j] = qq at htup
        obtain ⟨p, s0, lb, t⟩ := qq
        refine ⟨p, _, rfl, .inl (.inl htup), rfl, _, _, rfl, _, _, rfl, rfl, ?_⟩
        dsimp only
        refine ⟨.int t, rfl, rfl, _, rfl, ite2 (fun h1 => ?_) (fun h1 => ?_)⟩
        · have ht : t ≠ -1 := fun z => by subst z; simp at h1
          refine ⟨.int t, rfl, .ref f, rfl, f, setf (F ++ N) t, rfl, (by rw [← dm6.val t]; exact DGet.k (k := (Sum.inl t : Key)) f6), _, rfl, ?_⟩
          rw [setf_some]
          refine ite2 (fun h2 => ?_) (fun h2 => ?_)
          · have hn : t ∉ F ++ N := fun z => by simp [z] at h2
            have hkl := dm6.setLen
            rw [List.length_append] at hkl
            refine ⟨.ref f, rfl, .int t, rfl, f, _, rfl, .inl ⟨kv6, Sum.inl t, f6, rfl, small1000 (by omega), rfl⟩, ?_⟩
            have w7 : (upd H6 f (.dK (putK kv6 (Sum.inl t) (.bl true)))) ww = some (.lst ((W' ++ N).map V.int)) := by rw [upd_ne fw.symm]; exact w6
            refine ⟨.ref ww, rfl, .inl ⟨rfl, _, .inl (.inl w7)⟩, .int t, rfl, ww, _, _, rfl, rfl, w7, ?_, ?_⟩
            · rw [List.length_map, List.length_append]
              exact small1000 (by omega)
            · refine ⟨_, N ++ [t], _, _, rfl, fun b o hb => ?_, by rw [upd_ne fw, upd_same], ?_, ?_, by rw [upd_ne Lw, upd_ne Lf]; exact L6, wi.add (by simpa using ht) hn⟩
              · rw [upd_ne (ne_of_none hb hw0), upd_ne (ne_of_none hb hf)]
                exact S6 b o hb
              · rw [← List.append_assoc]
                exact dm6.setAdd t
              · rw [upd_same, ← List.append_assoc, List.map_append, List.map_append]
                simp
          · have hn : t ∈ F ++ N := Classical.byContradiction fun z => h2 (by simp at z; simp [z])
            exact ⟨_, _, _, _, rfl, S6, f6, dm6, w6, L6, wi.skip fun _ => hn⟩
        · have ht : t = -1 := Classical.byContradiction fun z => h1 (by simpa using z)
          exact ⟨_, _, _, _, rfl, S6, f6, dm6, w6, L6, wi.skip fun h => absurd ht (by simpa using h)⟩
      · rintro σ H6 ⟨kv6, N, y5, y6, rfl, S6, f6, dm6, w6, L6, wi⟩
        simp only [List.length_map] at wi
        rw [← List.length_map (f := fun q : Addr × Row => q.2.2.2) (as := qx), List.take_length, hts] at wi
        have wl' := wl.turn (fun y => List.mem_filter) wi
        have hFl' : (F ++ N).length ≤ rs.length + 1 := by
          have := wl'.few sucs_tgt
          rwa [List.length_map, List.length_map] at this
        refine ⟨_, ?_, kv6, F ++ N, W' ++ N, y5, y6, rfl, S6, f6, dm6, w6, wl', by rw [List.length_append, List.length_append]; omega, rfl⟩
        rw [List.length_append] at hFl'
        simp only [List.length_append, List.length_singleton]
        omega
end
end CH

namespace CH
open PySem L2 KS GL LB K24
open PySem.Spec hiding Row
open PyProof.Rows hiding cnt
theorem walk_zipT {K : PySem.W.Frag} {a b : Addr} {xs ys : List V} {n : Nat} (hn : n = min xs.length ys.length) : Walk (RZ.ItzT K a b) n (fun H => SqT K H a xs ∧ SqT K H b ys) (YPair (fun i => xs[i]?) (fun i => ys[i]?)) := by
  subst hn
  refine ⟨fun i _ hi q => ?_, fun _ q => ⟨xs, ys, q.1, q.2, by omega⟩, fun i H v H' _ q y => ?_⟩
  · have h1 : i < xs.length := by omega
    have h2 : i < ys.length := by omega
    exact ⟨xs, ys, xs[i], ys[i], q.1, q.2, by simp [h1], by simp [h2]⟩
  · obtain ⟨T, x, z, h1, h2, h3, h4, h5⟩ := y
    exact ⟨T, x, z, h1, h2, h3, h4 xs q.1, h5 ys q.2⟩
theorem sl_drop {K : PySem.W.Frag} {H : Hp} {a : Addr} {xs : List V} {Q : VK} (h : SqT K H a xs) (q : ∀ (b : Addr) (H' : Hp), Same H H' → SqT K H' b (xs.drop 1) → Q (.ref b) H') : rSlA K (.ref a) (some 1) none H Q := by
  have h1 : HT.sIx xs.length 0 (some 1) = min 1 xs.length := HT.sIx_nat xs.length 0 1
  have h2 : HT.sIx xs.length xs.length none = xs.length := rfl
  refine ⟨a, xs, rfl, h, fun hw => ?_, fun hw p hp => ?_⟩
  · have h0 : xs = [] := by
      rw [h1] at hw
      exact List.eq_nil_of_length_eq_zero (by omega)
    subst h0
    exact q a H (Same.refl _) h
  · refine q p _ (same_upd hp) (.inl (.inl ?_))
    rw [upd_same]
    have hlen : 1 ≤ xs.length := by
      rw [h1, h2] at hw
      omega
    unfold cutV
    rw [h1, h2, show min 1 xs.length = 1 by omega, List.take_of_length_le (by rw [List.length_drop]; omega)]
theorem alikeR (r q : K24.Row) : W.alike (rowD r) (rowD q) = true := by
  unfold rowD
  simp [W.alike, W.alikeAll]
/-- the rows make a chart of n states -/
structure ChartOk (n : Nat) (R : List K24.Row) : Prop where
  pos : 0 < n
  arr : ∀ r ∈ R, arrowB n r.1 r.2.1 r.2.2 = true
  ord : ∀ i (h : i + 1 < R.length), W.dataLt (rowD R[i]) (rowD R[i + 1]) = true
  all : ∀ m : Nat, m < n → Rch (sucs R) 0 m
theorem lbl_len {z : Str} (h : labelB z = true) : z.length ≤ 8 := by
  unfold labelB at h
  simp at h
  exact h.1.1.2
theorem arrow_lbl {n s t : Int} {l : Str} (h : arrowB n s l t = true) : l.length ≤ 8 := by
  unfold arrowB at h
  simp at h
  exact lbl_len h.1.1
section
variable {P : Program} {w : World} {K : PySem.W.Frag} {mg : Str → Option Value} {base : Heap}
def spCheck (K : PySem.W.Frag) : Sp := fun vs H Q _ => ∃ (n : Nat) (a : Addr) (rs : List (Addr × K24.Row)), vs = [.int n, .ref a] ∧ SqT K H a (rowRefs rs) ∧ RowsAt K H rs ∧ rs.length ≤ 200 ∧ ChartOk n (rs.map (·.2)) ∧ ∀ H' : Hp, Same H H' → Q .non H'
theorem scCheck : FnScope ["states", "arrows", "arrow", "one", "other", "lacking"] ["states", "arrows"] (defScope sCheck) := ⟨rfl, rfl, rfl, by decide +kernel, rfl, by decide +kernel, by decide +kernel⟩
theorem ok_check {f : Addr} {fd : FuncData} (G : Fun K "check_parts" "check_parts" sCheck f fd) (T : Blt2 mg) (his_integer : Has P w K mg base "is_integer" 1 ["thing"] spInt) (his_arrow : Has P w K mg base "is_arrow" 2 ["states", "thing"] (spArrow K))
    (hleast_lacking : Has P w K mg base "least_lacking" 1 ["found"] spLeast) (hreached_from : Has P w K mg base "reached_from" 2 ["state", "arrows"] (spReached K)) : FnOk P w K mg base CX0 3 f fd ["states", "arrows"] (spCheck K) := by
  refine G.ok scCheck (fun vs H Q E h => ?_) (fun cdv A outer s H vs Q E hr h => ?_)
  · obtain ⟨_, _, _, rfl, _⟩ := h
    rfl
  · obtain ⟨n, a, rs, rfl, hS, hR, hlen, ok, q⟩ := h
    have hu := hu_of hr
    have hu64 := hr.units
    refine ⟨_, (pss_cons (ps_if (PW.pt (pw_or (pt_not (pt_val (pe_has his_integer (hr.mono (by decide)) rfl (pa_cons (pv 0) pa_nil)))) (pw_or1 (pt_cmpR op_lt (pv 0) pe_int (nomark _)))))
    (pss_one ps_dead)
    pss_nil)
  (pss_cons (ps_if (pt_not (pt_val (pe_callB call_isi (by rfl) T.b_isinstance (by decide +kernel) (pa_cons (pv 1) (pa_cons (pe_bltn (u := .type "tuple") (v := .ty "tuple") rfl T.b_tuple (by decide +kernel) rfl) pa_nil)))))
    (pss_one ps_dead)
    pss_nil)
  (pss_cons (ps_for PassesOwn.never rfl (pi_tup (pv 1)) (pg_name (i := 2) scCheck.nd rfl (Or.inl rfl))
    (pss_one (ps_if (pt_not (pt_val (pe_has his_arrow (hr.mono (by decide)) rfl (pa_cons (pv 0) (pa_cons (pv 2) pa_nil)))))
    (pss_one ps_dead)
    pss_nil)))
  (pss_cons (ps_if (pt_not (pt_val (pe_callB (cr_all rfl) (by rfl) T.b_all (by decide +kernel) (pa_cons (pe_lc (own := [("one", 3), ("other", 4)]) (g := gTup K 2 (gCons (gName 3) (gCons (gName 4) gNil))) (tt := tYes) (te := tOp (rLtD K) (tVar 3) (tVar 4)) rfl scCheck.nd (RZ.pi_zipA (by rfl) T.b_zip (pa_cons (pv 1) (pa_cons (pe_slice sl_tupA (pv 1) (po_some pe_int) po_none) pa_nil))) (blkOk_by (own := [("one", 3), ("other", 4)]) (N := ["states", "arrows", "arrow", "one", "other", "lacking"]) (sc := defScope sCheck) (by decide +kernel)) (fun _ _ _ _ _ => (pg_tup rfl (pgs_cons (pg_name (i := 3) scCheck.nd rfl (Or.inl rfl)) (pgs_cons (pg_name (i := 4) scCheck.nd rfl (Or.inl rfl)) pgs_nil)))) (fun _ _ _ _ _ => pts_nil) (fun _ _ _ _ _ => (pe_cmpR (op_ltD hu64) (pv 3) (pv 4) (nomark _)))) pa_nil))))
    (pss_one ps_dead)
    pss_nil)
  (pss_cons (ps_set (i := 5) scCheck.nd rfl (Or.inl rfl) (pe_has hleast_lacking (hr.mono (by decide)) rfl (pa_cons (pe_has hreached_from (hr.mono (by decide)) rfl (pa_cons pe_int (pa_cons (pv 1) pa_nil))) pa_nil)))
  (pss_one (ps_if (pt_cmpR op_lt (pv 5) (pv 0) (nomark _))
    (pss_one ps_dead)
    pss_nil))))))), ?_⟩
    have hpos := ok.pos
    refine ⟨.int n, rfl, n, rfl, true, rfl, iteF ?_⟩
    refine ⟨.int n, rfl, n, 1, rfl, rfl, _, rfl, ?_⟩
    rw [decide_eq_false (show ¬ (n : Int) < 1 by omega)]
    refine iteF ?_
    refine v_isi_tup (i := 1) rfl hS ⟨true, rfl, iteF ?_⟩
    refine ⟨.ref a, rfl, a, rfl, ⟨_, hS⟩, for_tup (xs := rowRefs rs) (fun i σ H' => ∃ y2 : Option V, σ = [some (.int n), some (.ref a), y2, none, none, none] ∧ Same H H') ⟨none, rfl, Same.refl _⟩ (fun i σ H' _ ⟨_, _, S⟩ => sameT' S hS) ?_ ?_⟩
    · rintro i x σ H2 hx ⟨y2, rfl, S⟩
      obtain ⟨hi, rfl⟩ := row_at hx
      have hok := ok.arr rs[i].2 (List.mem_map.mpr ⟨_, List.getElem_mem hi, rfl⟩)
      have hl := arrow_lbl hok
      refine ⟨.int n, rfl, .ref rs[i].1, rfl, n, rs[i].2.1, rs[i].2.2.2, rs[i].2.2.1, rs[i].1, rfl, sameT' S (hR rs[i] (List.getElem_mem hi)), by omega, fun H3 S3 => ⟨_, rfl, ?_⟩⟩
      rw [hok]
      refine iteF ?_
      exact ⟨_, rfl, S.trans S3⟩
    · rintro σ H2 ⟨y2, rfl, S⟩
      have hS2 := sameT' S hS
      have hR2 := hR.mono S
      -- arrows[1:]
      refine ⟨.ref a, rfl, .ref a, rfl, 1, rfl, ?_⟩
      unfold tNoPart tNil
      dsimp only
      refine sl_drop hS2 fun b H3 S3 hb => ?_
      refine ⟨a, b, rowRefs rs, _, rfl, .inr ⟨sameT' S3 hS2, hb, fun D hD => ?_⟩⟩
      have hmin : (rowRefs rs).length - 1 = min (rowRefs rs).length ((rowRefs rs).drop 1).length := by
        rw [List.length_drop]
        omega
      refine lc_it (walk_zipT hmin) (fun i H' => Same H3 H' ∧ H' D = some (.lst (List.replicate i (.bl true)))) ⟨same_upd hD, upd_same⟩ (fun i H' _ h => ⟨sameT' (S3.trans h.1) hS2, sameT' h.1 hb⟩) ?_ ?_
      · rintro i x H4 H5 hi ⟨S4, e4⟩ ⟨t, u, v, rfl, ht, rfl, hu', hv'⟩
        have hi1 : i + 1 < rs.length := by
          rw [rowRefs_len] at hi
          omega
        dsimp only at hu' hv'
        obtain ⟨h1, rfl⟩ := row_at hu'
        rw [List.getElem?_drop] at hv'
        have hv'' : (rowRefs rs)[i + 1]? = some v := by rw [Nat.add_comm]; exact hv'
        obtain ⟨h2, rfl⟩ := row_at hv''
        have S5 := S4.trans (same_upd (o := .tup [.ref rs[i].1, .ref rs[i + 1].1]) ht)
        have Dt : D ≠ t := ne_of_none e4 ht
        have hord := ok.ord i (by rw [List.length_map]; exact hi1)
        rw [List.getElem_map, List.getElem_map] at hord
        have r1 := sameT' (S3.trans S5) (hR2 rs[i] (List.getElem_mem h1))
        have r2 := sameT' (S3.trans S5) (hR2 rs[i + 1] (List.getElem_mem h2))
        refine ⟨t, _, rfl, .inl (.inl upd_same), rfl, _, _, rfl, _, _, rfl, rfl, rfl, ?_⟩
        unfold tYes
        refine iteT ?_
        refine ⟨.ref rs[i].1, rfl, .ref rs[i + 1].1, rfl, rowD rs[i].2, rowD rs[i + 1].2, dp_row r1, dp_row r2, alikeR _ _, (fun z => by cases z), (by rw [depth_row]; decide), ?_⟩
        rw [hord]
        refine ⟨_, by rw [upd_ne Dt]; exact e4, ?_, ?_, ?_⟩
        · rw [List.length_replicate]
          exact small1000 (by omega)
        · refine fun z o hz => ?_
          have h3 : H3 z = some o := hz
          rw [upd_ne (ne_of_none hz hD)]
          exact S5 z o hz
        · rw [upd_same, List.replicate_succ']
      · rintro H4 ⟨S4, e4⟩
        refine ⟨D, List.replicate ((rowRefs rs).length - 1) true, rfl, .inl (.inl (by rw [e4, List.map_replicate])), _, rfl, ?_⟩
        have hall : (List.replicate ((rowRefs rs).length - 1) true).all id = true := by
          rw [List.all_eq_true]
          intro x hx
          exact (List.mem_replicate.mp hx).2
        rw [hall]
        refine iteF ?_
        have S24 := S3.trans S4
        refine ⟨.ref a, rfl, 0, a, rs, rfl, .inr (sameT' S24 hS2), hR2.mono S24, hlen, fun d kvs F' H5 S5 hd0 hd dm nd hF => ?_⟩
        refine ⟨d, kvs, F', rfl, hd, dm, nd, fun m hm hm2 => ?_⟩
        have hge : ¬ m < n := fun hlt => hm2 ((hF m).mpr (ok.all m hlt))
        refine ⟨.int m, rfl, .int n, rfl, m, n, rfl, rfl, _, rfl, ?_⟩
        rw [decide_eq_false (show ¬ (m : Int) < n by omega)]
        refine iteF ?_
        exact q H5 (S.trans (S24.trans S5))
end
end CH

namespace CH
open PySem L2 KS GL LB K24
open PySem.Spec hiding Row
open PyProof.Rows hiding cnt
theorem f_as : ¬ (("arrows" : Str) = "states") := by decide +kernel
theorem f_os : ¬ (("open_steps" : Str) = "states") := by decide +kernel
theorem f_oa : ¬ (("open_steps" : Str) = "arrows") := by decide +kernel
theorem f_sa : ¬ (("states" : Str) = "arrows") := by decide +kernel
theorem f_so : ¬ (("states" : Str) = "open_steps") := by decide +kernel
theorem f_ao : ¬ (("arrows" : Str) = "open_steps") := by decide +kernel
/-- a chart's fields -/
def cf (n : Nat) (a o : Addr) : List (Str × V) := putF "open_steps" (.ref o) (putF "arrows" (.ref a) (putF "states" (.int n) []))
theorem cf_states (n : Nat) (a o : Addr) : (cf n a o).lookup ("states" : Str) = some (.int n) := by
  unfold cf
  rw [lookup_putF, if_neg f_so, lookup_putF, if_neg f_sa, lookup_putF, if_pos rfl]
theorem cf_arrows (n : Nat) (a o : Addr) : (cf n a o).lookup ("arrows" : Str) = some (.ref a) := by
  unfold cf
  rw [lookup_putF, if_neg f_ao, lookup_putF, if_pos rfl]
theorem cf_open (n : Nat) (a o : Addr) : (cf n a o).lookup ("open_steps" : Str) = some (.ref o) := by
  unfold cf
  rw [lookup_putF, if_pos rfl]
theorem cf_no (n : Nat) (a o : Addr) {m : Str} (h1 : ¬ m = "states") (h2 : ¬ m = "arrows") (h3 : ¬ m = "open_steps") : (cf n a o).lookup m = none := by
  unfold cf
  rw [lookup_putF, if_neg h3, lookup_putF, if_neg h2, lookup_putF, if_neg h1]
  rfl
/-- the open steps' dict at o: each source with the tuple of its steps -/
structure OpenAt (H : Hp) (o : Addr) (R : List K24.Row) : Prop where
  ex : ∃ (kvs : List (Key × V)) (tp : Int → Addr) (qs : List (Addr × K24.Row)), H o = some (.dK kvs) ∧ DM kvs (gf (prs qs) tp) ∧ (∀ s, grp (prs qs) s ≠ [] → H (tp s) = some (.tup (grp (prs qs) s))) ∧ qs.map (·.2) = R ∧ StepsAt H qs
theorem OpenAt.mono {H H' : Hp} {o : Addr} {R : List K24.Row} (h : OpenAt H o R) (S : Same H H') : OpenAt H' o R := by
  obtain ⟨kvs, tp, qs, h1, h2, h3, h4, h5⟩ := h.ex
  exact ⟨kvs, tp, qs, S _ _ h1, h2, fun s hs => S _ _ (h3 s hs), h4, h5.mono S⟩
/-- .. all of it new -/
def OpenN (H0 H : Hp) (o : Addr) (R : List K24.Row) : Prop := H0 o = none ∧ ∃ (kvs : List (Key × V)) (tp : Int → Addr) (qs : List (Addr × K24.Row)), H o = some (.dK kvs) ∧ DM kvs (gf (prs qs) tp) ∧ (∀ s, grp (prs qs) s ≠ [] → H (tp s) = some (.tup (grp (prs qs) s)) ∧ H0 (tp s) = none) ∧ qs.map (·.2) = R ∧ StepsAt H qs ∧ ∀ q ∈ qs, H0 q.1 = none
/-- a chart of n states with the rows rs (the tuple at a) -/
structure ChartAt (K : PySem.W.Frag) (C : Addr) (H : Hp) (p : Addr) (n : Nat) (a : Addr) (rs : List (Addr × K24.Row)) : Prop where
  ins : ∃ dx o, H p = some (.ins C dx (cf n a o)) ∧ OpenAt H o (rs.map (·.2))
  tup : SqT K H a (rowRefs rs)
  rows : RowsAt K H rs
theorem ChartAt.mono {K : PySem.W.Frag} {C : Addr} {H H' : Hp} {p : Addr} {n : Nat} {a : Addr} {rs : List (Addr × K24.Row)} (h : ChartAt K C H p n a rs) (S : Same H H') : ChartAt K C H' p n a rs := by
  obtain ⟨dx, o, h1, h2⟩ := h.ins
  exact ⟨⟨dx, o, S _ _ h1, h2.mono S⟩, sameT' S h.tup, h.rows.mono S⟩
def rTupOf (K : PySem.W.Frag) : List V → Hp → VK → Prop := fun xs H Q => ∃ p ys, xs = [V.ref p] ∧ ((SqL K H p ys ∧ ∀ l, H l = none → Q (.ref l) (upd H l (.tup ys))) ∨ (SqT K H p ys ∧ Q (.ref p) H))
/-- what the written part says of the class -/
structure ChC (K : PySem.W.Frag) (mg : Str → Option Value) (C : Addr) : Prop where
  cl : Cls K C
  n1 : NoAttr K C "states"
  n2 : NoAttr K C "arrows"
  n3 : NoAttr K C "open_steps"
  mgC : mg "Chart" = some (.ref C)
section
variable {P : Program} {w : World} {K : PySem.W.Frag} {mg : Str → Option Value} {base : Heap}
def spInit (K : PySem.W.Frag) (C : Addr) : Sp := fun vs H Q _ => ∃ (H0 : Hp) (p dx : Addr) (n : Nat) (a : Addr) (rs : List (Addr × K24.Row)), vs = [.ref p, .int n, .ref a] ∧ Same H0 H ∧ H0 p = none ∧ H p = some (.ins C dx []) ∧ SqT K H0 a (rowRefs rs) ∧ RowsAt K H0 rs ∧ rs.length ≤ 200 ∧
  ChartOk n (rs.map (·.2)) ∧ ∀ (H' : Hp) (dx o : Addr), Same H0 H' → ChartAt K C H' p n a rs → H' p = some (.ins C dx (cf n a o)) → OpenN H0 H' o (rs.map (·.2)) → Q .non H'
theorem scInit : FnScope ["self", "states", "arrows", "source", "some"] ["self", "states", "arrows"] (defScope sInit) := ⟨rfl, rfl, rfl, by decide +kernel, rfl, by decide +kernel, by decide +kernel⟩
theorem ok_init {f C : Addr} {fd : FuncData} (G : Fun K "__init__" "Chart.__init__" sInit f fd) (T : Blt2 mg) (CC : ChC K mg C) (hcheck_parts : Has P w K mg base "check_parts" 3 ["states", "arrows"] (spCheck K)) (hsteps_by_source : Has P w K mg base "steps_by_source" 1 ["arrows"] (spSteps K)) :
    FnOk P w K mg base CX0 4 f fd ["self", "states", "arrows"] (spInit K C) := by
  refine G.ok scInit (fun vs H Q E h => ?_) (fun cdv A outer s H vs Q E hr h => ?_)
  · obtain ⟨_, _, _, _, _, _, rfl, _⟩ := h
    rfl
  · obtain ⟨H0, p, dx, n, a, rs, rfl, S0, p0, hp, hS, hR, hlen, ok, q⟩ := h
    refine ⟨_, (pss_cons (ps_expr (pe_has hcheck_parts (hr.mono (by decide)) rfl (pa_cons (pv 1) (pa_cons (pv 2) pa_nil))))
      (pss_cons (ps_fld (pv 0) (pv 1) rfl) (pss_cons (ps_fld (pv 0) (pv 2) rfl)
      (pss_one (ps_fld (pv 0) (pe_dc (own := [("source", 3), ("some", 4)]) (g := gTup K 2 (gCons (gName 3) (gCons (gName 4) gNil))) (tt := tYes) rfl scInit.nd (pi_items (pe_lk (pe_has hsteps_by_source (hr.mono (by decide)) rfl (pa_cons (pv 2) pa_nil)))) (blkOk_by (own := [("source", 3), ("some", 4)]) (N := ["self", "states", "arrows", "source", "some"]) (sc := defScope sInit) (by decide +kernel)) (fun _ _ _ _ _ => (pg_tup rfl (pgs_cons (pg_name (i := 3) scInit.nd rfl (Or.inl rfl)) (pgs_cons (pg_name (i := 4) scInit.nd rfl (Or.inl rfl)) pgs_nil)))) (fun _ _ _ _ _ => pts_nil) (fun _ _ _ _ _ => (pv 3)) (fun _ _ _ _ _ => (pe_callTy (T := "tuple") (r := rTupOf K) call_tuple_of (by rfl) T.b_tuple (by decide +kernel) (pa_cons (pv 4) pa_nil)))) rfl))))), ?_⟩
    have S0p : ∀ b o, H0 b = some o → b ≠ p := fun b o hb => ne_of_none hb p0
    -- check_parts(states, arrows)
    refine ⟨.int n, rfl, .ref a, rfl, n, a, rs, rfl, sameT' S0 hS, hR.mono S0, hlen, ok, fun H1 S1 => ?_⟩
    have hp1 := S1 _ _ hp
    have S01 := S0.trans S1
    refine ⟨.int n, rfl, .ref p, rfl, p, C, dx, _, rfl, hp1, CC.cl, CC.n1, (by show 0 < 1000; decide), ?_⟩
    refine ⟨.ref a, rfl, .ref p, rfl, p, C, dx, _, rfl, upd_same, CC.cl, CC.n2, (by show 1 < 1000; decide), ?_⟩
    rw [upd_upd]
    have S2 : Same H0 (upd H1 p (.ins C dx (putF "arrows" (.ref a) (putF "states" (.int n) [])))) := fun b o hb => by rw [upd_ne (S0p b o hb)]; exact S01 b o hb
    have hp2 : (upd H1 p (.ins C dx (putF "arrows" (.ref a) (putF "states" (.int n) [])))) p = some (.ins C dx (putF "arrows" (.ref a) (putF "states" (.int n) []))) := upd_same
    generalize (upd H1 p (.ins C dx (putF "arrows" (.ref a) (putF "states" (.int n) [])))) = H2 at S2 hp2
    -- self.open_steps = {..}
    refine ⟨.ref a, rfl, a, rs, rfl, .inr (sameT' S2 hS), hR.mono S2, hlen, fun D kvs pt qs Hk H3 S3 gd hq hst hnw => ⟨D, .dK kvs, rfl, gd.at_, trivial, fun od => ⟨D, od, kvs, rfl, upd_same, fun O hO => ?_⟩⟩⟩
    have OD : O ≠ D := fun z => by rw [z, upd_same] at hO; cases hO
    rw [upd_ne OD] at hO
    have hql : qs.length = rs.length := by
      have := congrArg List.length hq
      rwa [List.length_map, List.length_map] at this
    have hkl := gd.len
    have hps : (prs qs).length = rs.length := by unfold prs; rw [List.length_map, hql]
    have S23 : Same H2 H3 := S3.trans gd.same
    refine dc_it walk_items (fun i H' => H' D = some (.frz od (.dK kvs)) ∧ (∀ b o, b ≠ D → H3 b = some o → H' b = some o) ∧ ∃ (kvO : List (Key × V)) (tp : Int → Addr), H' O = some (.dK kvO) ∧ kvO.length ≤ i ∧
        DM kvO (fun s => if s ∈ (kvs.map fun p => keyI p.1).take i then some (.ref (tp s)) else none) ∧ (∀ s ∈ (kvs.map fun p => keyI p.1).take i, H' (tp s) = some (.tup (grp (prs qs) s))) ∧ ∀ s ∈ (kvs.map fun p => keyI p.1).take i, H0 (tp s) = none) ?_ (fun i H' _ h => h.1) ?_ ?_
    · exact ⟨by rw [upd_ne OD.symm, upd_same], fun b o h1 h2 => by rw [upd_ne (ne_of_none h2 hO), upd_ne h1]; exact h2, [], fun _ => 0, upd_same, Nat.le_refl _, DM.nil, (fun _ h => (nomatch h)), (fun _ h => (nomatch h))⟩
    · rintro i x H4 H5 hi ⟨g1, g2, kvO, tp, g3, g4, g5, g6, g7⟩ ⟨t, u, v, rfl, ht, rfl, hu', hv'⟩
      have ekv : kvs[i]? = some kvs[i] := List.getElem?_eq_getElem hi
      dsimp only at hu' hv'
      rw [ekv] at hu' hv'
      obtain rfl := Option.some.inj hu'
      obtain rfl := Option.some.inj hv'
      have hmem : kvs[i] ∈ kvs := List.getElem_mem hi
      have htk : (kvs.map fun p => keyI p.1).take (i + 1) = (kvs.map fun p => keyI p.1).take i ++ [keyI kvs[i].1] := by
        rw [List.take_succ, List.getElem?_map, ekv]
        rfl
      have hnew : keyI kvs[i].1 ∉ (kvs.map fun p => keyI p.1).take i := by
        have nd := gd.dm.keysI.1
        have h1 := List.take_append_drop (i + 1) (kvs.map fun p => keyI p.1)
        rw [htk] at h1
        rw [← h1] at nd
        have h2 := (List.nodup_append.mp (List.nodup_append.mp nd).1).2.2
        intro hin
        exact h2 _ hin _ (List.mem_singleton.mpr rfl) rfl
      rw [htk]
      generalize (kvs.map fun p => keyI p.1).take i = ks at hnew g5 g6 g7
      generalize kvs[i] = kv at hmem hnew
      obtain ⟨k, v⟩ := kv
      obtain ⟨s, hs⟩ := gd.dm.isI _ hmem
      dsimp only at hs
      subst hs
      have hv := gd.dm.mem.mp hmem
      have hb : grp (prs qs) s ≠ [] := fun z => by unfold gf at hv; rw [if_pos z] at hv; cases hv
      obtain rfl : V.ref (pt s) = v := by unfold gf at hv; rw [if_neg hb] at hv; exact Option.some.inj hv
      have hnew : s ∉ ks := hnew
      have hlist := g2 _ _ (gd.neD hb) (gd.l s hb)
      have S45 : Same H4 (upd H4 t (.tup [kV (Sum.inl s), .ref (pt s)])) := same_upd ht
      refine ⟨t, _, rfl, .inl (.inl upd_same), rfl, _, _, rfl, _, _, rfl, rfl, rfl, ?_⟩
      unfold tYes
      refine iteT ?_
      refine ⟨kV (Sum.inl s), rfl, .ref (pt s), rfl, pt s, _, rfl, .inl ⟨.inl (.inl (S45 _ _ hlist)), fun l hl => ?_⟩⟩
      have S46 := S45.trans (same_upd (o := .tup (grp (prs qs) s)) hl)
      have g36 := S46 _ _ g3
      have OL : O ≠ l := fun z => by rw [← z, S45 _ _ g3] at hl; cases hl
      refine ⟨kvO, Sum.inl s, rfl, g36, small1000 (by omega), by rw [upd_ne OD.symm]; exact S46 _ _ g1, fun b o h1 h2 => ?_, _, (fun x => if x = s then l else tp x), upd_same, ?_, (g5.put s (.ref l)).congr fun x => ?_, fun x hx => ?_, fun x hx => ?_⟩
      · rw [upd_ne (ne_of_none h2 hO)]
        exact S46 _ _ (g2 b o h1 h2)
      · have := length_putK kvO (Sum.inl s : Key) (.ref l)
        omega
      · by_cases h : x = s
        · subst h
          simp [keyI]
        · have h2 : x ∈ ks ++ [keyI (Sum.inl s : Key)] ↔ x ∈ ks := by
            rw [List.mem_append, List.mem_singleton]
            exact ⟨fun z => z.resolve_right h, .inl⟩
          simp only [h, if_false]
          by_cases h3 : x ∈ ks
          · rw [if_pos h3, if_pos (h2.mpr h3)]
          · rw [if_neg h3, if_neg fun z => h3 (h2.mp z)]
      · have hlO : l ≠ O := OL.symm
        by_cases h : x = s
        · subst h
          simp only [if_true]
          rw [upd_ne hlO, upd_same]
        · simp only [h, if_false]
          have hx2 : x ∈ ks := by
            rcases List.mem_append.mp hx with z | z
            · exact z
            · exact absurd (List.mem_singleton.mp z) h
          have h6 := g6 x hx2
          have hne : tp x ≠ O := fun z => by rw [z, g3] at h6; cases h6
          rw [upd_ne hne]
          exact S46 _ _ h6
      · by_cases h : x = s
        · subst h
          simp only [if_true]
          cases e : H0 l with
          | none => rfl
          | some o =>
            have hbk := S3 _ _ (S2 l o e)
            rw [S45 _ _ (g2 l o (ne_of_none hbk gd.fd) (gd.same _ _ hbk))] at hl
            cases hl
        · simp only [h, if_false]
          rcases List.mem_append.mp hx with z | z
          · exact g7 x z
          · exact absurd (List.mem_singleton.mp z) h
    · rintro H4 ⟨g1, g2, kvO, tp, g3, g4, g5, g6, g7⟩
      have hfull : (kvs.map fun p => keyI p.1).take kvs.length = kvs.map fun p => keyI p.1 := by
        rw [← List.length_map (f := fun p : Key × V => keyI p.1) (as := kvs), List.take_length]
      rw [hfull] at g5 g6 g7
      have hkey : ∀ s, s ∈ (kvs.map fun p => keyI p.1) ↔ grp (prs qs) s ≠ [] := fun s => by
        rw [gd.dm.keysI.2 s]
        unfold gf
        by_cases h : grp (prs qs) s = [] <;> simp [h]
      have hD2 : Hk D = none := gd.fd
      have pD : p ≠ D := fun z => by rw [z] at hp2; rw [S3 _ _ hp2] at hD2; cases hD2
      have hp4 := g2 _ _ pD (S23 _ _ hp2)
      refine ⟨.ref p, rfl, p, C, dx, _, rfl, hp4, CC.cl, CC.n3, (by show 2 < 1000; decide), ?_⟩
      have SF : Same H0 (upd H4 p (.ins C dx (putF "open_steps" (.ref O) (putF "arrows" (.ref a) (putF "states" (.int n) []))))) := fun b o hb => by
        have hbk := S3 _ _ (S2 b o hb)
        rw [upd_ne (S0p b o hb)]
        exact g2 b o (ne_of_none hbk hD2) (gd.same _ _ hbk)
      have Op : O ≠ p := fun z => by rw [z, hp4] at g3; cases g3
      have hO0 : H0 O = none := by
        cases e : H0 O with
        | none => rfl
        | some o => rw [gd.same _ _ (S3 _ _ (S2 O o e))] at hO; cases hO
      have ON : OpenN H0 (upd H4 p (.ins C dx (putF "open_steps" (.ref O) (putF "arrows" (.ref a) (putF "states" (.int n) []))))) O (rs.map (·.2)) := by
        refine ⟨hO0, kvO, tp, qs, by rw [upd_ne Op]; exact g3, g5.congr fun s => ?_, fun s hs => ⟨?_, g7 s ((hkey s).mpr hs)⟩, hq, fun z hz => ?_, fun z hz => S2.free (hnw z hz)⟩
        · unfold gf
          by_cases h : grp (prs qs) s = []
          · rw [if_pos h, if_neg fun z => (hkey s).mp z h]
          · rw [if_neg h, if_pos ((hkey s).mpr h)]
        · have h6 := g6 s ((hkey s).mpr hs)
          rw [upd_ne fun z => by rw [z, hp4] at h6; cases h6]
          exact h6
        · have h3 := hst z hz
          have hz4 := g2 _ _ (ne_of_none h3 hD2) (gd.same _ _ h3)
          rw [upd_ne fun x => by rw [x, hp4] at hz4; cases hz4]
          exact hz4
      obtain ⟨_, k1, k2, k3, k4, k5, k6, k7, k8, _⟩ := id ON
      exact q _ dx O SF ⟨⟨dx, O, upd_same, ⟨k1, k2, k3, k4, k5, fun s hs => (k6 s hs).1, k7, k8⟩⟩, sameT' SF hS, hR.mono SF⟩ upd_same ON
end
end CH

/-! A mirror of the slots: what is known of each local (a datum that stands, or a thing of its own that may change); readings told by it alone. -/
namespace ML
open PySem PySem.Spec PyProof.Rows L2 KS GL LB
abbrev FP := Addr → Prop
/-- what is known of a value: H0 what stands for ever, H all, f the addresses that are its own -/
structure Res where
  holds : Hp → Hp → V → FP → Prop
  loc : ∀ {H0 H0' H H' : Hp} {v : V} {f : FP}, holds H0 H v f → Same H0 H0' → (∀ a, f a → H' a = H a ∧ H0' a = none) → holds H0' H' v f
  live : ∀ {H0 H : Hp} {v : V} {f : FP} {a : Addr}, holds H0 H v f → f a → H a ≠ none ∧ H0 a = none
structure Pd where
  p : Hp → V → Prop
  mono : ∀ {H H' : Hp} {v : V}, p H v → Same H H' → p H' v
def pu (P : Pd) : Res := ⟨fun H0 _ v f => P.p H0 v ∧ ∀ a, ¬ f a, fun h s _ => ⟨P.mono h.1 s, h.2⟩, fun h ha => absurd ha (h.2 _)⟩
abbrev MS := List (Option Res)
structure Sat (ρ : MS) (σ : L2.St) (H0 H : Hp) (G : FP) : Prop where
  same : Same H0 H
  len : σ.length = ρ.length
  fr : ∀ a, G a → H a ≠ none ∧ H0 a = none
  sl : ∃ F : Nat → FP, (∀ (i : Nat) (R : Res), ρ[i]? = some (some R) → ∃ v, σ[i]? = some (some v) ∧ R.holds H0 H v (F i)) ∧ (∀ i j a, F i a → F j a → i = j) ∧ (∀ i a, F i a → ¬ G a) ∧ ∀ i a, F i a → ∃ R : Res, ρ[i]? = some (some R)
structure Ext (G : FP) (H0 H H0' H' : Hp) : Prop where
  s0 : Same H0 H0'
  fr : ∀ a, G a → H' a = H a
theorem Ext.refl {G : FP} {H0 H : Hp} : Ext G H0 H H0 H := ⟨Same.refl _, fun _ _ => rfl⟩
theorem Ext.trans {G : FP} {H0 H H1 H1' H2 H2' : Hp} (a : Ext G H0 H H1 H1') (b : Ext G H1 H1' H2 H2') : Ext G H0 H H2 H2' := ⟨a.s0.trans b.s0, fun x hx => (b.fr x hx).trans (a.fr x hx)⟩
theorem Ext.weak {G G' : FP} {H0 H H0' H' : Hp} (a : Ext G' H0 H H0' H') (h : ∀ x, G x → G' x) : Ext G H0 H H0' H' := ⟨a.s0, fun x hx => a.fr x (h x hx)⟩
inductive Rt
  | val (R : Res)
  | at (i : Nat)
def RtH : Rt → L2.St → Hp → Hp → V → FP → Prop
  | .val R, _, H0, H, v, f => R.holds H0 H v f
  | .at i, σ, _, _, v, f => σ[i]? = some (some v) ∧ ∀ a, ¬ f a
theorem RtH.loc {r : Rt} {σ : L2.St} {H0 H0' H H' : Hp} {v : V} {f : FP} (h : RtH r σ H0 H v f) (s : Same H0 H0') (hf : ∀ a, f a → H' a = H a ∧ H0' a = none) : RtH r σ H0' H' v f := by
  cases r with
  | val R => exact R.loc h s hf
  | «at» i => exact h
theorem RtH.live {r : Rt} {σ : L2.St} {H0 H : Hp} {v : V} {f : FP} {a : Addr} (h : RtH r σ H0 H v f) (hf : f a) : H a ≠ none ∧ H0 a = none := by
  cases r with
  | val R => exact R.live h hf
  | «at» i => exact absurd hf (h.2 _)
structure Post (G : FP) (σ : L2.St) (H0 H : Hp) (r : Rt) (ρ' : MS) (v : V) (f : FP) (H0' H' : Hp) : Prop where
  ext : Ext G H0 H H0' H'
  rt : RtH r σ H0' H' v f
  dis : ∀ a, f a → ¬ G a
  sat : Sat ρ' σ H0' H' fun a => G a ∨ f a
/-- an expression -/
def ev (te : TE) (ρ : MS) (Q : Rt → MS → Prop) : Prop := ∀ (σ : L2.St) (H0 H : Hp) (G : FP) (k : VK), Sat ρ σ H0 H G →
  (∀ r ρ' v f H0' H', Q r ρ' → Post G σ H0 H r ρ' v f H0' H' → k v H') → te σ H k
/-- a test -/
def evT (tt : TT) (ρ : MS) (Q : Bool → MS → Prop) : Prop := ∀ (σ : L2.St) (H0 H : Hp) (G : FP) (k : Bool → Hp → Prop), Sat ρ σ H0 H G →
  (∀ b ρ' H0' H', Q b ρ' → Ext G H0 H H0' H' → Sat ρ' σ H0' H' G → k b H') → tt σ H k
def RtsH : List Rt → L2.St → Hp → Hp → List V → FP → Prop
  | [], _, _, _, vs, f => vs = [] ∧ ∀ a, ¬ f a
  | r :: rs, σ, H0, H, vs, f => ∃ v vs' f1 f2, vs = v :: vs' ∧ RtH r σ H0 H v f1 ∧ RtsH rs σ H0 H vs' f2 ∧ (∀ a, f a ↔ f1 a ∨ f2 a) ∧ ∀ a, f1 a → ¬ f2 a
theorem RtsH.loc {σ : L2.St} {H0 H0' H H' : Hp} (s : Same H0 H0') : ∀ {rs : List Rt} {vs : List V} {f : FP}, RtsH rs σ H0 H vs f → (∀ a, f a → H' a = H a ∧ H0' a = none) → RtsH rs σ H0' H' vs f
  | [], _, _, h, _ => h
  | r :: rs, _, _, ⟨v, vs', f1, f2, e, h1, h2, h3, h4⟩, hf => ⟨v, vs', f1, f2, e, h1.loc s fun a ha => hf a ((h3 a).mpr (.inl ha)), RtsH.loc s h2 fun a ha => hf a ((h3 a).mpr (.inr ha)), h3, h4⟩
theorem RtsH.live {σ : L2.St} {H0 H : Hp} : ∀ {rs : List Rt} {vs : List V} {f : FP} {a : Addr}, RtsH rs σ H0 H vs f → f a → H a ≠ none ∧ H0 a = none
  | [], _, _, a, h, ha => absurd ha (h.2 a)
  | r :: rs, _, _, a, ⟨v, vs', f1, f2, e, h1, h2, h3, h4⟩, ha => ((h3 a).mp ha).elim h1.live (RtsH.live h2)
structure PostA (G : FP) (σ : L2.St) (H0 H : Hp) (rs : List Rt) (ρ' : MS) (vs : List V) (f : FP) (H0' H' : Hp) : Prop where
  ext : Ext G H0 H H0' H'
  rt : RtsH rs σ H0' H' vs f
  dis : ∀ a, f a → ¬ G a
  sat : Sat ρ' σ H0' H' fun a => G a ∨ f a
def evA (ta : TA) (ρ : MS) (Q : List Rt → MS → Prop) : Prop := ∀ (σ : L2.St) (H0 H : Hp) (G : FP) (k : List V → Hp → Prop), Sat ρ σ H0 H G →
  (∀ rs ρ' vs f H0' H', Q rs ρ' → PostA G σ H0 H rs ρ' vs f H0' H' → k vs H') → ta σ H k
structure Out where
  nx : MS → Prop
  rt : Rt → MS → Prop
  bk : MS → Prop
  ct : MS → Prop
/-- a statement; the first np slots keep their values -/
def ex (np : Nat) (ts : TS) (ρ : MS) (Φ : Out) : Prop := ∀ (σ : L2.St) (H0 H : Hp) (G : FP) (D : Ends), Sat ρ σ H0 H G →
  (∀ ρ' σ' H0' H', Φ.nx ρ' → σ'.take np = σ.take np → Ext G H0 H H0' H' → Sat ρ' σ' H0' H' G → D.nx σ' H') →
  (∀ r ρ' σ' v f H0' H', Φ.rt r ρ' → σ'.take np = σ.take np → Post G σ' H0 H r ρ' v f H0' H' → D.rt v H') →
  (∀ ρ' σ' H0' H', Φ.bk ρ' → σ'.take np = σ.take np → Ext G H0 H H0' H' → Sat ρ' σ' H0' H' G → D.bk σ' H') →
  (∀ ρ' σ' H0' H', Φ.ct ρ' → σ'.take np = σ.take np → Ext G H0 H H0' H' → Sat ρ' σ' H0' H' G → D.ct σ' H') → ts D σ H
/-! ### how what is known goes on -/
section
variable {ρ : MS} {σ : L2.St} {H0 H H0' H' : Hp} {G G' : FP}
theorem Sat.get (S : Sat ρ σ H0 H G) {i : Nat} {R : Res} (h : ρ[i]? = some (some R)) : ∃ v f, σ[i]? = some (some v) ∧ R.holds H0 H v f ∧ ∀ a, f a → ¬ G a := by
  obtain ⟨F, h1, h2, h3, _⟩ := S.sl
  obtain ⟨v, e, r⟩ := h1 i R h
  exact ⟨v, F i, e, r, h3 i⟩
theorem Sat.mv (S : Sat ρ σ H0 H G) (s0 : Same H0 H0') (s1 : Same H0' H') (hk : ∀ a, (G a ∨ H a ≠ none ∧ H0 a = none) → H' a = H a ∧ H0' a = none) : Sat ρ σ H0' H' G := by
  obtain ⟨F, h1, h2, h3, h4⟩ := S.sl
  have lv : ∀ i a, F i a → H a ≠ none ∧ H0 a = none := fun i a ha => by
    obtain ⟨R, hR⟩ := h4 i a ha
    obtain ⟨v, _, r⟩ := h1 i R hR
    exact R.live r ha
  refine ⟨s1, S.len, fun a ha => ?_, F, fun i R hR => ?_, h2, h3, h4⟩
  · obtain ⟨e1, e2⟩ := hk a (.inl ha)
    exact ⟨by rw [e1]; exact (S.fr a ha).1, e2⟩
  · obtain ⟨v, e, r⟩ := h1 i R hR
    exact ⟨v, e, R.loc r s0 fun a ha => hk a (.inr (lv i a ha))⟩
/-- a new object, that stands from now on -/
theorem Sat.new (S : Sat ρ σ H0 H G) {p : Addr} {o : HO} (hp : H p = none) : Sat ρ σ (upd H0 p o) (upd H p o) G := by
  have h0 := S.same.free hp
  refine S.mv (same_upd h0) (fun b u e => ?_) fun a ha => ?_
  · by_cases hb : b = p
    · subst hb
      rw [upd_same] at e ⊢
      exact e
    · rw [upd_ne hb] at e ⊢
      exact S.same b u e
  · have hne : H a ≠ none ∧ H0 a = none := ha.elim (S.fr a) id
    have ap : a ≠ p := fun e => hne.1 (e ▸ hp)
    rw [upd_ne ap, upd_ne ap]
    exact ⟨rfl, hne.2⟩
theorem Sat.frame (S : Sat ρ σ H0 H G) (h : ∀ a, G' a → G a) : Sat ρ σ H0 H G' := by
  obtain ⟨F, h1, h2, h3, h4⟩ := S.sl
  exact ⟨S.same, S.len, fun a ha => S.fr a (h a ha), F, h1, h2, fun i a ha hg => h3 i a ha (h a hg), h4⟩
/-- a new object of one's own -/
theorem Sat.own (S : Sat ρ σ H0 H G) {p : Addr} {o : HO} (hp : H p = none) : Sat ρ σ H0 (upd H p o) fun a => G a ∨ a = p := by
  have h0 := S.same.free hp
  have S1 : Sat ρ σ H0 (upd H p o) G := by
    refine S.mv (Same.refl _) (S.same.trans (same_upd hp)) fun a ha => ?_
    have hne : H a ≠ none ∧ H0 a = none := ha.elim (S.fr a) id
    have ap : a ≠ p := fun e => hne.1 (e ▸ hp)
    rw [upd_ne ap]
    exact ⟨rfl, hne.2⟩
  obtain ⟨F, h1, h2, h3, h4⟩ := S1.sl
  obtain ⟨F', k1, k2, k3, k4⟩ := S.sl
  refine ⟨S1.same, S1.len, fun a ha => ?_, F', fun i R hR => ?_, k2, fun i a ha hg => ?_, k4⟩
  · rcases ha with ha | rfl
    · exact S1.fr a ha
    · exact ⟨by rw [upd_same]; exact Option.some_ne_none _, h0⟩
  · obtain ⟨v, e, r⟩ := k1 i R hR
    refine ⟨v, e, R.loc r (Same.refl _) fun a ha => ?_⟩
    have l := R.live r ha
    have ap : a ≠ p := fun e => l.1 (e ▸ hp)
    rw [upd_ne ap]
    exact ⟨rfl, l.2⟩
  · rcases hg with hg | rfl
    · exact k3 i a ha hg
    · obtain ⟨R, hR⟩ := k4 i a ha
      obtain ⟨v, _, r⟩ := k1 i R hR
      exact (R.live r ha).1 hp
/-- what was a temporary thing stands from now on -/
theorem Sat.freeze (S : Sat ρ σ H0 H fun a => G a ∨ G' a) {p : Addr} {o : HO} (h1 : H p = some o) (h2 : ¬ G p) (h3 : G' p) : Sat ρ σ (upd H0 p o) H G := by
  have h0 := (S.fr p (.inr h3)).2
  have S1 : Sat ρ σ H0 H G := S.frame fun _ => .inl
  obtain ⟨F, k1, k2, k3, k4⟩ := S.sl
  have hs : Same (upd H0 p o) H := fun b u e => by
    by_cases hb : b = p
    · subst hb
      rw [upd_same] at e
      rw [h1, e]
    · rw [upd_ne hb] at e
      exact S.same b u e
  refine ⟨hs, S.len, fun a ha => ?_, F, fun i R hR => ?_, k2, fun i a ha hg => k3 i a ha (.inl hg), k4⟩
  · have ap : a ≠ p := fun e => h2 (e ▸ ha)
    rw [upd_ne ap]
    exact S1.fr a ha
  · obtain ⟨v, e, r⟩ := k1 i R hR
    refine ⟨v, e, R.loc r (same_upd h0) fun a ha => ⟨rfl, ?_⟩⟩
    have ap : a ≠ p := fun e => k3 i a ha (.inr (e ▸ h3))
    rw [upd_ne ap]
    exact (R.live r ha).2
/-- a slot is filled -/
theorem Sat.set (S : Sat ρ σ H0 H fun a => G a ∨ G' a) {i : Nat} {R : Res} {v : V} (hr : R.holds H0 H v G') (hd : ∀ a, G' a → ¬ G a) : Sat (ρ.set i (some R)) (σ.set i (some v)) H0 H G := by
  obtain ⟨F, h1, h2, h3, h4⟩ := S.sl
  refine ⟨S.same, by rw [List.length_set, List.length_set, S.len], fun a ha => S.fr a (.inl ha), fun j => if j = i then (if i < ρ.length then G' else fun _ => False) else F j, fun j R' hR => ?_, fun j j' a ha ha' => ?_, fun j a ha => ?_, fun j a ha => ?_⟩
  · by_cases hj : j = i
    · subst hj
      have hlt : j < ρ.length := by
        rcases Nat.lt_or_ge j ρ.length with h | h
        · exact h
        · rw [List.getElem?_eq_none (by rw [List.length_set]; exact h)] at hR
          cases hR
      rw [List.getElem?_set_self hlt] at hR
      obtain rfl : R = R' := Option.some.inj (Option.some.inj hR)
      refine ⟨v, by rw [List.getElem?_set_self (by rw [S.len]; exact hlt)], ?_⟩
      simp only [hlt, if_true]
      exact hr
    · rw [List.getElem?_set_ne (fun e => hj e.symm)] at hR ⊢
      simp only [hj, if_false]
      exact h1 j R' hR
  · by_cases hj : j = i <;> by_cases hj' : j' = i
    · rw [hj, hj']
    · simp only [hj, hj', if_true, if_false] at ha ha'
      by_cases hl : i < ρ.length
      · simp only [hl, if_true] at ha
        exact absurd (.inr ha) (h3 j' a ha')
      · simp only [hl, if_false] at ha
    · simp only [hj, hj', if_true, if_false] at ha ha'
      by_cases hl : i < ρ.length
      · simp only [hl, if_true] at ha'
        exact absurd (.inr ha') (h3 j a ha)
      · simp only [hl, if_false] at ha'
    · simp only [hj, hj', if_false] at ha ha'
      exact h2 j j' a ha ha'
  · by_cases hj : j = i
    · simp only [hj, if_true] at ha
      by_cases hl : i < ρ.length
      · simp only [hl, if_true] at ha
        exact hd a ha
      · simp only [hl, if_false] at ha
    · simp only [hj, if_false] at ha
      exact fun hg => h3 j a ha (.inl hg)
  · by_cases hj : j = i
    · subst hj
      by_cases hl : j < ρ.length
      · exact ⟨R, List.getElem?_set_self hl⟩
      · simp only [if_true, hl, if_false] at ha
    · simp only [hj, if_false] at ha
      rw [List.getElem?_set_ne (fun e => hj e.symm)]
      exact h4 j a ha
/-- a slot is forgotten -/
theorem Sat.forget (S : Sat ρ σ H0 H G) (i : Nat) (x : Option V) : Sat (ρ.set i none) (σ.set i x) H0 H G := by
  obtain ⟨F, h1, h2, h3, h4⟩ := S.sl
  refine ⟨S.same, by rw [List.length_set, List.length_set, S.len], S.fr, fun j => if j = i then fun _ => False else F j, fun j R hR => ?_, fun j j' a ha ha' => ?_, fun j a ha => ?_, fun j a ha => ?_⟩
  · by_cases hj : j = i
    · subst hj
      rcases Nat.lt_or_ge j ρ.length with h | h
      · rw [List.getElem?_set_self h] at hR
        cases hR
      · rw [List.getElem?_eq_none (by rw [List.length_set]; exact h)] at hR
        cases hR
    · rw [List.getElem?_set_ne (fun e => hj e.symm)] at hR ⊢
      simp only [hj, if_false]
      exact h1 j R hR
  · by_cases hj : j = i
    · simp only [hj, if_true] at ha
    · by_cases hj' : j' = i
      · simp only [hj', if_true] at ha'
      · simp only [hj, hj', if_false] at ha ha'
        exact h2 j j' a ha ha'
  · by_cases hj : j = i
    · simp only [hj, if_true] at ha
    · simp only [hj, if_false] at ha
      exact h3 j a ha
  · by_cases hj : j = i
    · simp only [hj, if_true] at ha
    · simp only [hj, if_false] at ha
      rw [List.getElem?_set_ne (fun e => hj e.symm)]
      exact h4 j a ha
/-- .. the slot's value as it was -/
theorem set_self {α : Type} : ∀ {l : List α} {i : Nat} {x : α}, l[i]? = some x → l.set i x = l
  | [], _, _, _ => rfl
  | y :: l, 0, x, h => by
    obtain rfl : y = x := Option.some.inj h
    rfl
  | y :: l, i + 1, x, h => by
    show y :: l.set i x = y :: l
    rw [set_self (l := l) (i := i) h]
theorem Sat.drop (S : Sat ρ σ H0 H G) (i : Nat) : Sat (ρ.set i none) σ H0 H G := by
  by_cases h : i < σ.length
  · have := S.forget i σ[i]
    rwa [set_self (List.getElem?_eq_getElem h)] at this
  · rw [List.set_eq_of_length_le (by rw [← S.len]; omega)]
    exact S
/-- the thing of a slot taken out: a temporary thing -/
theorem Sat.take (S : Sat ρ σ H0 H G) {i : Nat} {R : Res} (h : ρ[i]? = some (some R)) : ∃ v f, σ[i]? = some (some v) ∧ R.holds H0 H v f ∧ (∀ a, f a → ¬ G a) ∧ Sat (ρ.set i none) σ H0 H fun a => G a ∨ f a := by
  obtain ⟨F, h1, h2, h3, h4⟩ := S.sl
  obtain ⟨v, e, r⟩ := h1 i R h
  refine ⟨v, F i, e, r, h3 i, ?_⟩
  have hi : i < ρ.length := by
    rcases Nat.lt_or_ge i ρ.length with z | z
    · exact z
    · rw [List.getElem?_eq_none z] at h
      cases h
  refine ⟨S.same, by rw [List.length_set, S.len], fun a ha => ha.elim (S.fr a) (R.live r), fun j => if j = i then fun _ => False else F j, fun j R' hR => ?_, fun j j' a ha ha' => ?_, fun j a ha hg => ?_, fun j a ha => ?_⟩
  · by_cases hj : j = i
    · subst hj
      rw [List.getElem?_set_self hi] at hR
      cases hR
    · rw [List.getElem?_set_ne (fun e => hj e.symm)] at hR
      simp only [hj, if_false]
      exact h1 j R' hR
  · by_cases hj : j = i
    · simp only [hj, if_true] at ha
    · by_cases hj' : j' = i
      · simp only [hj', if_true] at ha'
      · simp only [hj, hj', if_false] at ha ha'
        exact h2 j j' a ha ha'
  · by_cases hj : j = i
    · simp only [hj, if_true] at ha
    · simp only [hj, if_false] at ha
      rcases hg with hg | hg
      · exact h3 j a ha hg
      · exact hj (h2 j i a ha hg)
  · by_cases hj : j = i
    · simp only [hj, if_true] at ha
    · simp only [hj, if_false] at ha
      rw [List.getElem?_set_ne (fun e => hj e.symm)]
      exact h4 j a ha
/-- and put back, changed -/
theorem Sat.back (S : Sat (ρ.set i none) σ H0 H fun a => G a ∨ G' a) {R : Res} {v : V} (hv : σ[i]? = some (some v)) (hr : R.holds H0 H v G') (hd : ∀ a, G' a → ¬ G a) : Sat (ρ.set i (some R)) σ H0 H G := by
  have := S.set (i := i) hr hd
  rwa [List.set_set, set_self hv] at this
/-- a temporary thing changes -/
theorem Sat.mut (S : Sat ρ σ H0 H fun a => G a ∨ G' a) (hk : ∀ a, ¬ G' a → H' a = H a) (hG : ∀ a, G' a → H' a ≠ none) : Sat ρ σ H0 H' fun a => G a ∨ G' a := by
  obtain ⟨F, h1, h2, h3, h4⟩ := S.sl
  have frz : ∀ a, H0 a ≠ none → ¬ G' a := fun a ha hg => ha (S.fr a (.inr hg)).2
  refine ⟨fun b u e => ?_, S.len, fun a ha => ?_, F, fun i R hR => ?_, h2, h3, h4⟩
  · rw [hk b (frz b (by rw [e]; exact Option.some_ne_none _))]
    exact S.same b u e
  · refine ⟨?_, (S.fr a ha).2⟩
    by_cases hg : G' a
    · exact hG a hg
    · rw [hk a hg]
      exact (S.fr a ha).1
  · obtain ⟨v, e, r⟩ := h1 i R hR
    exact ⟨v, e, R.loc r (Same.refl _) fun a ha => ⟨hk a fun hg => h3 i a ha (.inr hg), (R.live r ha).2⟩⟩
end
end ML

namespace ML
open PySem PySem.Spec PyProof.Rows L2 KS GL LB
/-! ### data that stand -/
mutual
inductive Da (K : PySem.W.Frag) (H : Hp) : V → PyData → Prop
  | non : Da K H .non .none
  | bl (b : Bool) : Da K H (.bl b) (.bool b)
  | int (i : Int) : Da K H (.int i) (.int i)
  | str (x : Str) : Da K H (.str x) (.str x)
  | lst {a : Addr} {xs : List V} {ds : List PyData} : H a = some (.lst xs) → DaAll K H xs ds → Da K H (.ref a) (.list ds)
  | tup {a : Addr} {xs : List V} {ds : List PyData} : SqT K H a xs → DaAll K H xs ds → Da K H (.ref a) (.tuple ds)
inductive DaAll (K : PySem.W.Frag) (H : Hp) : List V → List PyData → Prop
  | nil : DaAll K H [] []
  | cons {v : V} {vs : List V} {d : PyData} {ds : List PyData} : Da K H v d → DaAll K H vs ds → DaAll K H (v :: vs) (d :: ds)
end
theorem sameT {K : PySem.W.Frag} {H H' : Hp} {a : Addr} {xs : List V} (e : Same H H') (h : SqT K H a xs) : SqT K H' a xs := by
  rcases h with (h | ⟨o, h⟩) | h
  · exact .inl (.inl (e _ _ h))
  · exact .inl (.inr ⟨o, e _ _ h⟩)
  · exact .inr h
section
variable {K : PySem.W.Frag} {H H' : Hp}
mutual
theorem Da.mono (e : Same H H') : ∀ (d : PyData) (v : V), Da K H v d → Da K H' v d
  | .none, _, h => by cases h; exact .non
  | .bool b, _, h => by cases h; exact .bl b
  | .int i, _, h => by cases h; exact .int i
  | .str x, _, h => by cases h; exact .str x
  | .list ds, _, h => by
    cases h with
    | lst h1 h2 => exact .lst (e _ _ h1) (DaAll.mono e ds _ h2)
  | .tuple ds, _, h => by
    cases h with
    | tup h1 h2 => exact .tup (sameT e h1) (DaAll.mono e ds _ h2)
  | .dict _, _, h => by cases h
theorem DaAll.mono (e : Same H H') : ∀ (ds : List PyData) (vs : List V), DaAll K H vs ds → DaAll K H' vs ds
  | [], _, h => by cases h; exact .nil
  | d :: ds, _, h => by
    cases h with
    | cons h1 h2 => exact .cons (Da.mono e d _ h1) (DaAll.mono e ds _ h2)
end
mutual
theorem Da.dp : ∀ (d : PyData) (v : V), Da K H v d → Dp K H v d
  | .none, _, h => by cases h; exact .non
  | .bool b, _, h => by cases h; exact .bl b
  | .int i, _, h => by cases h; exact .int i
  | .str x, _, h => by cases h; exact .str x
  | .list ds, _, h => by
    cases h with
    | lst h1 h2 => exact .lst (.inl (.inl h1)) (DaAll.dp ds _ h2)
  | .tuple ds, _, h => by
    cases h with
    | tup h1 h2 => exact .tup h1 (DaAll.dp ds _ h2)
  | .dict _, _, h => by cases h
theorem DaAll.dp : ∀ (ds : List PyData) (vs : List V), DaAll K H vs ds → DpAll K H vs ds
  | [], _, h => by cases h; exact .nil
  | d :: ds, _, h => by
    cases h with
    | cons h1 h2 => exact .cons (Da.dp d _ h1) (DaAll.dp ds _ h2)
end
theorem DaAll.len : ∀ {ds : List PyData} {vs : List V}, DaAll K H vs ds → vs.length = ds.length
  | [], _, h => by cases h; rfl
  | d :: ds, _, h => by
    cases h with
    | cons h1 h2 => rw [List.length_cons, List.length_cons, DaAll.len h2]
theorem DaAll.get : ∀ {ds : List PyData} {vs : List V} {i : Nat} {d : PyData}, DaAll K H vs ds → ds[i]? = some d → ∃ v, vs[i]? = some v ∧ Da K H v d
  | [], _, _, _, _, e => by cases e
  | _ :: ds, _, 0, d, .cons h1 _, e => ⟨_, rfl, by cases e; exact h1⟩
  | _ :: ds, _, i + 1, d, .cons _ h2, e => DaAll.get (i := i) h2 e
theorem DaAll.get' : ∀ {ds : List PyData} {vs : List V} {i : Nat} {v : V}, DaAll K H vs ds → vs[i]? = some v → ∃ d, ds[i]? = some d ∧ Da K H v d
  | [], _, _, _, .nil, e => by cases e
  | _ :: ds, _, 0, d, .cons h1 _, e => ⟨_, rfl, by cases e; exact h1⟩
  | _ :: ds, _, i + 1, d, .cons _ h2, e => DaAll.get' (i := i) h2 e
theorem DaAll.append : ∀ {ds es : List PyData} {vs ws : List V}, DaAll K H vs ds → DaAll K H ws es → DaAll K H (vs ++ ws) (ds ++ es)
  | [], _, _, _, .nil, h => h
  | _ :: _, _, _, _, .cons h1 h2, h => .cons h1 (DaAll.append h2 h)
theorem DaAll.set : ∀ {ds : List PyData} {vs : List V} {i : Nat} {v : V} {d : PyData}, DaAll K H vs ds → Da K H v d → DaAll K H (vs.set i v) (ds.set i d)
  | [], _, _, _, _, .nil, _ => .nil
  | _ :: _, _, 0, _, _, .cons _ h2, h => .cons h h2
  | _ :: _, _, i + 1, _, _, .cons h1 h2, h => .cons h1 (DaAll.set h2 h)
theorem DaAll.dropLast : ∀ {ds : List PyData} {vs : List V}, DaAll K H vs ds → DaAll K H vs.dropLast ds.dropLast
  | [], _, .nil => .nil
  | [_], [_], .cons _ .nil => .nil
  | _ :: _ :: _, _, .cons h1 (.cons h2 h3) => .cons h1 (DaAll.dropLast (.cons h2 h3))
theorem DaAll.take : ∀ {ds : List PyData} {vs : List V} (n : Nat), DaAll K H vs ds → DaAll K H (vs.take n) (ds.take n)
  | [], _, _, .nil => by simp; exact .nil
  | _ :: _, _, 0, .cons _ _ => .nil
  | _ :: _, _, n + 1, .cons h1 h2 => .cons h1 (DaAll.take n h2)
theorem DaAll.drop : ∀ {ds : List PyData} {vs : List V} (n : Nat), DaAll K H vs ds → DaAll K H (vs.drop n) (ds.drop n)
  | [], _, _, .nil => by simp; exact .nil
  | _ :: _, _, 0, .cons h1 h2 => .cons h1 h2
  | _ :: _, _, n + 1, .cons h1 h2 => DaAll.drop n h2
theorem DaAll.eraseIdx : ∀ {ds : List PyData} {vs : List V} (n : Nat), DaAll K H vs ds → DaAll K H (vs.eraseIdx n) (ds.eraseIdx n)
  | [], _, _, .nil => .nil
  | _ :: _, _, 0, .cons h1 h2 => h2
  | _ :: _, _, n + 1, .cons h1 h2 => .cons h1 (DaAll.eraseIdx n h2)
theorem DaAll.reverse : ∀ {ds : List PyData} {vs : List V}, DaAll K H vs ds → DaAll K H vs.reverse ds.reverse
  | [], _, .nil => .nil
  | _ :: _, _, .cons h1 h2 => by rw [List.reverse_cons, List.reverse_cons]; exact DaAll.append (DaAll.reverse h2) (.cons h1 .nil)
theorem DaAll.ints : ∀ (ns : List Int), DaAll K H (ns.map V.int) (ns.map PyData.int)
  | [] => .nil
  | n :: ns => .cons (.int n) (DaAll.ints ns)
theorem DaAll.toInts : ∀ {ns : List Int} {vs : List V}, DaAll K H vs (ns.map PyData.int) → vs = ns.map V.int
  | [], _, .nil => rfl
  | n :: ns, _, .cons h1 h2 => by
    cases h1
    rw [List.map_cons, ← DaAll.toInts h2]
theorem DaAll.toStrs : ∀ {ns : List Str} {vs : List V}, DaAll K H vs (ns.map PyData.str) → vs = ns.map V.str
  | [], _, .nil => rfl
  | n :: ns, _, .cons h1 h2 => by
    cases h1
    rw [List.map_cons, ← DaAll.toStrs h2]
theorem DaAll.toBools : ∀ {ns : List Bool} {vs : List V}, DaAll K H vs (ns.map PyData.bool) → vs = ns.map V.bl
  | [], _, .nil => rfl
  | n :: ns, _, .cons h1 h2 => by
    cases h1
    rw [List.map_cons, ← DaAll.toBools h2]
theorem DaAll.ofStrs : ∀ (ns : List Str), DaAll K H (ns.map V.str) (ns.map PyData.str)
  | [] => .nil
  | n :: ns => .cons (.str n) (DaAll.ofStrs ns)
end
def datP (K : PySem.W.Frag) (d : PyData) : Pd := ⟨fun H v => Da K H v d, fun {_ _ v} h s => Da.mono s d v h⟩
/-- a datum that stands -/
abbrev dat (K : PySem.W.Frag) (d : PyData) : Res := pu (datP K d)
/-- a list of one's own, its items data -/
def lo (K : PySem.W.Frag) (ds : List PyData) : Res := ⟨fun H0 H v f => ∃ a xs, v = .ref a ∧ (∀ b, f b ↔ b = a) ∧ H0 a = none ∧ H a = some (.lst xs) ∧ DaAll K H0 xs ds,
  fun {H0 H0' H H' v f} ⟨a, xs, e, hf, h1, h2, h3⟩ s hk => ⟨a, xs, e, hf, (hk a ((hf a).mpr rfl)).2, by rw [(hk a ((hf a).mpr rfl)).1]; exact h2, DaAll.mono s ds xs h3⟩,
  fun {H0 H v f b} ⟨a, xs, e, hf, h1, h2, h3⟩ hb => by
    obtain rfl := (hf b).mp hb
    exact ⟨by rw [h2]; exact Option.some_ne_none _, h1⟩⟩
/-! ### expressions -/
section
variable {K : PySem.W.Frag} {ρ : MS} {Q : Rt → MS → Prop} {Qb : Bool → MS → Prop} {ta tb te tc : TE} {t u : TT}
theorem ev_var {i : Nat} {P : Pd} (h : ρ[i]? = some (some (pu P))) (q : Q (.val (pu P)) ρ) : ev (tVar i) ρ Q := by
  intro σ H0 H G k S hk
  obtain ⟨v, f, e, r, d⟩ := S.get h
  exact ⟨v, e, hk _ _ _ _ _ _ q ⟨Ext.refl, r, d, S.frame fun a ha => ha.resolve_right (r.2 a)⟩⟩
/-- a thing of its own, by its slot -/
theorem ev_at {i : Nat} {R : Res} (h : ρ[i]? = some (some R)) (q : Q (.at i) ρ) : ev (tVar i) ρ Q := by
  intro σ H0 H G k S hk
  obtain ⟨v, f, e, r, d⟩ := S.get h
  exact ⟨v, e, hk _ _ _ (fun _ => False) _ _ q ⟨Ext.refl, ⟨e, fun _ h => h⟩, fun _ h => h.elim, S.frame fun a ha => ha.resolve_right id⟩⟩
theorem post_pure {G : FP} {σ : L2.St} {H0 H : Hp} {P : Pd} {v : V} (S : Sat ρ σ H0 H G) (h : P.p H0 v) : Post G σ H0 H (.val (pu P)) ρ v (fun _ => False) H0 H := ⟨Ext.refl, ⟨h, fun _ h => h⟩, fun _ h => h.elim, S.frame fun a ha => ha.resolve_right id⟩
theorem ev_int {n : Int} (q : Q (.val (dat K (.int n))) ρ) : ev (tC (.int n)) ρ Q := fun σ H0 H G k S hk => hk _ _ _ _ _ _ q (post_pure S (.int n))
theorem ev_str {z : Str} (q : Q (.val (dat K (.str z))) ρ) : ev (tC (.str z)) ρ Q := fun σ H0 H G k S hk => hk _ _ _ _ _ _ q (post_pure S (.str z))
theorem ev_bl {b : Bool} (q : Q (.val (dat K (.bool b))) ρ) : ev (tC (.bl b)) ρ Q := fun σ H0 H G k S hk => hk _ _ _ _ _ _ q (post_pure S (.bl b))
theorem ev_non (q : Q (.val (dat K .none)) ρ) : ev (tC .non) ρ Q := fun σ H0 H G k S hk => hk _ _ _ _ _ _ q (post_pure S .non)
/-- a value that is known for good (a constant of the module) -/
theorem ev_c {v : V} {P : Pd} (h : ∀ H, P.p H v) (q : Q (.val (pu P)) ρ) : ev (tC v) ρ Q := fun σ H0 H G k S hk => hk _ _ _ _ _ _ q (post_pure S (h _))
theorem ev_mono {Q' : Rt → MS → Prop} (h : ev te ρ Q) (hq : ∀ r ρ', Q r ρ' → Q' r ρ') : ev te ρ Q' := fun σ H0 H G k S hk => h σ H0 H G k S fun r ρ' v f H0' H' q => hk r ρ' v f H0' H' (hq r ρ' q)
/-- a two-place operation on what is known -/
def opR (r : R2) (r1 r2 : Rt) (ρ : MS) (Q : Rt → MS → Prop) : Prop := ∀ (σ : L2.St) (H0 H : Hp) (G : FP) (v1 v2 : V) (f1 f2 : FP) (k : VK), Sat ρ σ H0 H (fun a => G a ∨ f1 a ∨ f2 a) → RtH r1 σ H0 H v1 f1 → RtH r2 σ H0 H v2 f2 → (∀ a, f1 a → ¬ G a) → (∀ a, f2 a → ¬ G a) → (∀ a, f1 a → ¬ f2 a) →
  (∀ r ρ' v f H0' H', Q r ρ' → Post G σ H0 H r ρ' v f H0' H' → k v H') → r v1 v2 H k
theorem ev_op {r : R2} (h : ev ta ρ fun r1 ρ1 => ev tb ρ1 fun r2 ρ2 => opR r r1 r2 ρ2 Q) : ev (tOp r ta tb) ρ Q := by
  intro σ H0 H G k S hk
  refine h σ H0 H G _ S fun r1 ρ1 v1 f1 H1 H1' h1 p1 => ?_
  refine h1 σ H1 H1' (fun a => G a ∨ f1 a) _ p1.sat fun r2 ρ2 v2 f2 H2 H2' h2 p2 => ?_
  have rt1 : RtH r1 σ H2 H2' v1 f1 := p1.rt.loc p2.ext.s0 fun a ha => ⟨p2.ext.fr a (.inr ha), (p2.sat.fr a (.inl (.inr ha))).2⟩
  refine h2 σ H2 H2' G v1 v2 f1 f2 _ (p2.sat.frame fun a ha => ?_) rt1 p2.rt p1.dis (fun a h1 h2 => p2.dis a h1 (.inl h2)) (fun a h1 h2 => p2.dis a h2 (.inr h1)) fun r ρ' v f H3 H3' h3 p3 => hk r ρ' v f H3 H3' h3 ⟨(p1.ext.trans (p2.ext.weak fun _ => .inl)).trans p3.ext, p3.rt, p3.dis, p3.sat⟩
  rcases ha with h | h | h
  · exact .inl (.inl h)
  · exact .inl (.inr h)
  · exact .inr h
/-- a one-place operation on what is known -/
def unR (r : V → Hp → VK → Prop) (r1 : Rt) (ρ : MS) (Q : Rt → MS → Prop) : Prop := ∀ (σ : L2.St) (H0 H : Hp) (G : FP) (v1 : V) (f1 : FP) (k : VK), Sat ρ σ H0 H (fun a => G a ∨ f1 a) → RtH r1 σ H0 H v1 f1 → (∀ a, f1 a → ¬ G a) →
  (∀ r ρ' v f H0' H', Q r ρ' → Post G σ H0 H r ρ' v f H0' H' → k v H') → r v1 H k
theorem ev_un {r : V → Hp → VK → Prop} (h : ev ta ρ fun r1 ρ1 => unR r r1 ρ1 Q) : ev (tUn r ta) ρ Q := by
  intro σ H0 H G k S hk
  refine h σ H0 H G _ S fun r1 ρ1 v1 f1 H1 H1' h1 p1 => ?_
  exact h1 σ H1 H1' G v1 f1 _ p1.sat p1.rt p1.dis fun r ρ' v f H3 H3' h3 p3 => hk r ρ' v f H3 H3' h3 ⟨p1.ext.trans p3.ext, p3.rt, p3.dis, p3.sat⟩
/-- reads as a datum (a list of one's own, too) -/
inductive rd (K : PySem.W.Frag) (ρ : MS) : Rt → PyData → Prop
  | val {d : PyData} : rd K ρ (.val (dat K d)) d
  | own {ds : List PyData} : rd K ρ (.val (lo K ds)) (.list ds)
  | slot {i : Nat} {d : PyData} : ρ[i]? = some (some (dat K d)) → rd K ρ (.at i) d
  | slotL {i : Nat} {ds : List PyData} : ρ[i]? = some (some (lo K ds)) → rd K ρ (.at i) (.list ds)
theorem rd.da {r : Rt} {d : PyData} {σ : L2.St} {H0 H : Hp} {G : FP} {v : V} {f : FP} (h : rd K ρ r d) (S : Sat ρ σ H0 H G) (hr : RtH r σ H0 H v f) : Da K H v d := by
  have ofL : ∀ {ds : List PyData} {f : FP}, (lo K ds).holds H0 H v f → Da K H v (.list ds) := fun {ds f} ⟨a, xs, e, _, _, h2, h3⟩ => e ▸ .lst h2 (DaAll.mono S.same _ _ h3)
  cases h with
  | val => exact Da.mono S.same _ _ hr.1
  | own => exact ofL hr
  | slot h1 =>
    obtain ⟨w, f', e, q, _⟩ := S.get h1
    obtain rfl : w = v := Option.some.inj (Option.some.inj (e.symm.trans hr.1))
    exact Da.mono S.same _ _ q.1
  | slotL h1 =>
    obtain ⟨w, f', e, q, _⟩ := S.get h1
    obtain rfl : w = v := Option.some.inj (Option.some.inj (e.symm.trans hr.1))
    exact ofL q
/-- the items of a list or tuple that is read: they stand -/
theorem rd.list {r : Rt} {ds : List PyData} {σ : L2.St} {H0 H : Hp} {G : FP} {v : V} {f : FP} (h : rd K ρ r (.list ds)) (S : Sat ρ σ H0 H G) (hr : RtH r σ H0 H v f) : ∃ a xs, v = .ref a ∧ H a = some (.lst xs) ∧ DaAll K H0 xs ds := by
  have ofL : ∀ {f : FP}, (lo K ds).holds H0 H v f → ∃ a xs, v = .ref a ∧ H a = some (.lst xs) ∧ DaAll K H0 xs ds := fun {f} ⟨a, xs, e, _, _, h2, h3⟩ => ⟨a, xs, e, h2, h3⟩
  have ofD : Da K H0 v (.list ds) → ∃ a xs, v = .ref a ∧ H a = some (.lst xs) ∧ DaAll K H0 xs ds := fun h => by
    cases h with
    | lst h1 h2 => exact ⟨_, _, rfl, S.same _ _ h1, h2⟩
  cases h with
  | val => exact ofD hr.1
  | own => exact ofL hr
  | slot h1 =>
    obtain ⟨w, f', e, q, _⟩ := S.get h1
    obtain rfl : w = v := Option.some.inj (Option.some.inj (e.symm.trans hr.1))
    exact ofD q.1
  | slotL h1 =>
    obtain ⟨w, f', e, q, _⟩ := S.get h1
    obtain rfl : w = v := Option.some.inj (Option.some.inj (e.symm.trans hr.1))
    exact ofL q
theorem rd.tup {r : Rt} {ds : List PyData} {σ : L2.St} {H0 H : Hp} {G : FP} {v : V} {f : FP} (h : rd K ρ r (.tuple ds)) (S : Sat ρ σ H0 H G) (hr : RtH r σ H0 H v f) : ∃ a xs, v = .ref a ∧ SqT K H0 a xs ∧ DaAll K H0 xs ds := by
  have ofD : Da K H0 v (.tuple ds) → ∃ a xs, v = .ref a ∧ SqT K H0 a xs ∧ DaAll K H0 xs ds := fun h => by
    cases h with
    | tup h1 h2 => exact ⟨_, _, rfl, h1, h2⟩
  cases h with
  | val => exact ofD hr.1
  | slot h1 =>
    obtain ⟨w, f', e, q, _⟩ := S.get h1
    obtain rfl : w = v := Option.some.inj (Option.some.inj (e.symm.trans hr.1))
    exact ofD q.1
theorem rd.int {r : Rt} {n : Int} {σ : L2.St} {H0 H : Hp} {G : FP} {v : V} {f : FP} (h : rd K ρ r (.int n)) (S : Sat ρ σ H0 H G) (hr : RtH r σ H0 H v f) : v = .int n := by
  have := h.da S hr
  cases this
  rfl
theorem rd.str {r : Rt} {n : Str} {σ : L2.St} {H0 H : Hp} {G : FP} {v : V} {f : FP} (h : rd K ρ r (.str n)) (S : Sat ρ σ H0 H G) (hr : RtH r σ H0 H v f) : v = .str n := by
  have := h.da S hr
  cases this
  rfl
theorem rd.bool {r : Rt} {n : Bool} {σ : L2.St} {H0 H : Hp} {G : FP} {v : V} {f : FP} (h : rd K ρ r (.bool n)) (S : Sat ρ σ H0 H G) (hr : RtH r σ H0 H v f) : v = .bl n := by
  have := h.da S hr
  cases this
  rfl
/-- a datum without a place -/
inductive Sc : V → PyData → Prop
  | non : Sc .non .none
  | bl (b : Bool) : Sc (.bl b) (.bool b)
  | int (i : Int) : Sc (.int i) (.int i)
  | str (x : Str) : Sc (.str x) (.str x)
theorem Sc.da {v : V} {d : PyData} {H : Hp} (h : Sc v d) : Da K H v d := by
  cases h
  · exact .non
  · exact .bl _
  · exact .int _
  · exact .str _
theorem post_sc {G G' : FP} {σ : L2.St} {H0 H : Hp} {v : V} {d : PyData} (S : Sat ρ σ H0 H G') (hG : ∀ a, G a → G' a) (h : Sc v d) : Post G σ H0 H (.val (dat K d)) ρ v (fun _ => False) H0 H := post_pure (S.frame hG) h.da
/-- .. that reads and gives back a datum without a place -/
theorem op_sc {r : R2} {r1 r2 : Rt} {d1 d2 d3 : PyData} (h1 : rd K ρ r1 d1) (h2 : rd K ρ r2 d2) (hr : ∀ (H : Hp) (v1 v2 : V) (k : VK), Da K H v1 d1 → Da K H v2 d2 → (∀ v, Sc v d3 → k v H) → r v1 v2 H k) (q : Q (.val (dat K d3)) ρ) : opR r r1 r2 ρ Q := by
  intro σ H0 H G v1 v2 f1 f2 k S e1 e2 _ _ _ hk
  exact hr H v1 v2 k (h1.da S e1) (h2.da S e2) fun v hv => hk _ _ _ _ _ _ q (post_sc S (fun _ => .inl) hv)
theorem un_sc {r : V → Hp → VK → Prop} {r1 : Rt} {d1 d3 : PyData} (h1 : rd K ρ r1 d1) (hr : ∀ (H : Hp) (v1 : V) (k : VK), Da K H v1 d1 → (∀ v, Sc v d3 → k v H) → r v1 H k) (q : Q (.val (dat K d3)) ρ) : unR r r1 ρ Q := by
  intro σ H0 H G v1 f1 k S e1 _ hk
  exact hr H v1 k (h1.da S e1) fun v hv => hk _ _ _ _ _ _ q (post_sc S (fun _ => .inl) hv)
/-! ### whole numbers -/
section
variable {r1 r2 : Rt} {i j : Int}
theorem da_int {H : Hp} {v : V} {i : Int} (h : Da K H v (.int i)) : v = .int i := by
  cases h
  rfl
theorem op_i0 {g : Int → Int → V} {d : PyData} (h1 : rd K ρ r1 (.int i)) (h2 : rd K ρ r2 (.int j)) (hd : Sc (g i j) d) (q : Q (.val (dat K d)) ρ) : opR (rI0 g) r1 r2 ρ Q :=
  op_sc h1 h2 (fun H v1 v2 k e1 e2 hk => ⟨i, j, da_int e1, da_int e2, hk _ hd⟩) q
theorem op_iC {C : Int → Int → Prop} {g : Int → Int → V} {d : PyData} (h1 : rd K ρ r1 (.int i)) (h2 : rd K ρ r2 (.int j)) (hc : C i j) (hd : Sc (g i j) d) (q : Q (.val (dat K d)) ρ) : opR (rI C g) r1 r2 ρ Q :=
  op_sc h1 h2 (fun H v1 v2 k e1 e2 hk => ⟨i, j, da_int e1, da_int e2, hc, hk _ hd⟩) q
theorem un_i {g : Int → V} {d : PyData} (h1 : rd K ρ r1 (.int i)) (hd : Sc (g i) d) (q : Q (.val (dat K d)) ρ) : unR (rU g) r1 ρ Q :=
  un_sc h1 (fun H v1 k e1 hk => ⟨i, da_int e1, hk _ hd⟩) q
theorem op_eqI (h1 : rd K ρ r1 (.int i)) (h2 : rd K ρ r2 (.int j)) (q : Q (.val (dat K (.bool (decide (i = j))))) ρ) : opR rEq r1 r2 ρ Q :=
  op_sc h1 h2 (fun H v1 v2 k e1 e2 hk => by
    rw [da_int e1, da_int e2]
    refine ⟨rfl, ?_⟩
    have : decide (V.int i = V.int j) = decide (i = j) := by simp
    rw [this]
    exact hk _ (.bl _)) q
theorem op_neI (h1 : rd K ρ r1 (.int i)) (h2 : rd K ρ r2 (.int j)) (q : Q (.val (dat K (.bool (!decide (i = j))))) ρ) : opR rNe r1 r2 ρ Q :=
  op_sc h1 h2 (fun H v1 v2 k e1 e2 hk => by
    rw [da_int e1, da_int e2]
    refine ⟨rfl, ?_⟩
    have : decide (V.int i = V.int j) = decide (i = j) := by simp
    rw [this]
    exact hk _ (.bl _)) q
theorem op_eqS {x y : Str} (h1 : rd K ρ r1 (.str x)) (h2 : rd K ρ r2 (.str y)) (q : Q (.val (dat K (.bool (decide (x = y))))) ρ) : opR rEq r1 r2 ρ Q :=
  op_sc h1 h2 (fun H v1 v2 k e1 e2 hk => by
    cases e1
    cases e2
    refine ⟨rfl, ?_⟩
    have : decide (V.str x = V.str y) = decide (x = y) := by simp
    rw [this]
    exact hk _ (.bl _)) q
theorem op_neS {x y : Str} (h1 : rd K ρ r1 (.str x)) (h2 : rd K ρ r2 (.str y)) (q : Q (.val (dat K (.bool (!decide (x = y))))) ρ) : opR rNe r1 r2 ρ Q :=
  op_sc h1 h2 (fun H v1 v2 k e1 e2 hk => by
    cases e1
    cases e2
    refine ⟨rfl, ?_⟩
    have : decide (V.str x = V.str y) = decide (x = y) := by simp
    rw [this]
    exact hk _ (.bl _)) q
end
/-! ### data compared, items -/
theorem op_deq {r1 r2 : Rt} {d e : PyData} (h1 : rd K ρ r1 d) (h2 : rd K ρ r2 e) (s1 : SeqAt.shaped d = true) (s2 : SeqAt.shaped e = true) (q : Q (.val (dat K (.bool (PyData.eqv d e)))) ρ) : opR (rEqD K) r1 r2 ρ Q :=
  op_sc h1 h2 (fun H v1 v2 k e1 e2 hk => ⟨d, e, Da.dp _ _ e1, Da.dp _ _ e2, s1, s2, hk _ (.bl _)⟩) q
theorem op_dne {r1 r2 : Rt} {d e : PyData} (h1 : rd K ρ r1 d) (h2 : rd K ρ r2 e) (s1 : SeqAt.shaped d = true) (s2 : SeqAt.shaped e = true) (q : Q (.val (dat K (.bool (!PyData.eqv d e)))) ρ) : opR (rNeD K) r1 r2 ρ Q :=
  op_sc h1 h2 (fun H v1 v2 k e1 e2 hk => ⟨d, e, Da.dp _ _ e1, Da.dp _ _ e2, s1, s2, hk _ (.bl _)⟩) q
theorem atI_da {H : Hp} {ds : List PyData} {vs : List V} {i : Int} {d : PyData} (h : DaAll K H vs ds) (e : atI ds i = some d) : ∃ v, atI vs i = some v ∧ Da K H v d := by
  unfold atI at e ⊢
  rw [h.len]
  cases hn : ixN ds.length i with
  | none => rw [hn] at e; cases e
  | some j =>
    rw [hn] at e
    exact h.get e
theorem op_ixL {r1 r2 : Rt} {ds : List PyData} {i : Int} {d : PyData} (h1 : rd K ρ r1 (.list ds)) (h2 : rd K ρ r2 (.int i)) (hd : atI ds i = some d) (q : Q (.val (dat K d)) ρ) : opR (rIxL K) r1 r2 ρ Q := by
  intro σ H0 H G v1 v2 f1 f2 k S e1 e2 _ _ _ hk
  obtain ⟨a, xs, rfl, ha, hx⟩ := h1.list S e1
  obtain rfl := h2.int S e2
  obtain ⟨v, hv, hd'⟩ := atI_da hx hd
  exact ⟨a, xs, i, v, rfl, rfl, .inl (.inl ha), hv, hk _ _ _ _ _ _ q (post_pure (S.frame fun _ => .inl) hd')⟩
theorem op_ixT {r1 r2 : Rt} {ds : List PyData} {i : Int} {d : PyData} (h1 : rd K ρ r1 (.tuple ds)) (h2 : rd K ρ r2 (.int i)) (hd : atI ds i = some d) (q : Q (.val (dat K d)) ρ) : opR (rIxT K) r1 r2 ρ Q := by
  intro σ H0 H G v1 v2 f1 f2 k S e1 e2 _ _ _ hk
  obtain ⟨a, xs, rfl, ha, hx⟩ := h1.tup S e1
  obtain rfl := h2.int S e2
  obtain ⟨v, hv, hd'⟩ := atI_da hx hd
  exact ⟨a, xs, i, v, rfl, rfl, sameT S.same ha, hv, hk _ _ _ _ _ _ q (post_pure (S.frame fun _ => .inl) hd')⟩
theorem op_ixQL {r1 r2 : Rt} {ds : List PyData} {i : Int} {d : PyData} (h1 : rd K ρ r1 (.list ds)) (h2 : rd K ρ r2 (.int i)) (hd : atI ds i = some d) (q : Q (.val (dat K d)) ρ) : opR (rIx K) r1 r2 ρ Q :=
  fun σ H0 H G v1 v2 f1 f2 k S e1 e2 d1 d2 d3 hk => .inl (op_ixL h1 h2 hd q σ H0 H G v1 v2 f1 f2 k S e1 e2 d1 d2 d3 hk)
theorem op_ixQT {r1 r2 : Rt} {ds : List PyData} {i : Int} {d : PyData} (h1 : rd K ρ r1 (.tuple ds)) (h2 : rd K ρ r2 (.int i)) (hd : atI ds i = some d) (q : Q (.val (dat K d)) ρ) : opR (rIx K) r1 r2 ρ Q :=
  fun σ H0 H G v1 v2 f1 f2 k S e1 e2 d1 d2 d3 hk => .inr (.inl (op_ixT h1 h2 hd q σ H0 H G v1 v2 f1 f2 k S e1 e2 d1 d2 d3 hk))
end
end ML

namespace ML
open PySem PySem.Spec PyProof.Rows L2 KS GL LB
section
variable {K : PySem.W.Frag} {ρ : MS} {Q : Rt → MS → Prop} {Qb : Bool → MS → Prop} {ta tb te tc : TE} {t u : TT} {np : Nat} {Φ : Out} {ts us : TS}
/-! ### arguments -/
theorem evA_nil {Q : List Rt → MS → Prop} (q : Q [] ρ) : evA tNil ρ Q := fun σ H0 H G k S hk => hk [] ρ [] (fun _ => False) H0 H q ⟨Ext.refl, ⟨rfl, fun _ h => h⟩, fun _ h => h.elim, S.frame fun a ha => ha.resolve_right id⟩
theorem evA_cons {tr : TA} {Q : List Rt → MS → Prop} (h : ev ta ρ fun r ρ1 => evA tr ρ1 fun rs ρ2 => Q (r :: rs) ρ2) : evA (tCons ta tr) ρ Q := by
  intro σ H0 H G k S hk
  refine h σ H0 H G _ S fun r1 ρ1 v1 f1 H1 H1' h1 p1 => ?_
  refine h1 σ H1 H1' (fun a => G a ∨ f1 a) _ p1.sat fun rs ρ2 vs f2 H2 H2' h2 p2 => ?_
  have rt1 : RtH r1 σ H2 H2' v1 f1 := p1.rt.loc p2.ext.s0 fun a ha => ⟨p2.ext.fr a (.inr ha), (p2.sat.fr a (.inl (.inr ha))).2⟩
  refine hk (r1 :: rs) ρ2 (v1 :: vs) (fun a => f1 a ∨ f2 a) H2 H2' h2 ⟨p1.ext.trans (p2.ext.weak fun _ => .inl), ⟨v1, vs, f1, f2, rfl, rt1, p2.rt, fun _ => Iff.rfl, fun a a1 a2 => p2.dis a a2 (.inr a1)⟩, fun a ha => ha.elim (p1.dis a) fun a2 g => p2.dis a a2 (.inl g), p2.sat.frame fun a ha => ?_⟩
  rcases ha with h | h | h
  · exact .inl (.inl h)
  · exact .inl (.inr h)
  · exact .inr h
/-- arguments that are data -/
def evD (K : PySem.W.Frag) (ta : TA) (ρ : MS) (Q : List PyData → MS → Prop) : Prop := ∀ (σ : L2.St) (H0 H : Hp) (G : FP) (k : List V → Hp → Prop), Sat ρ σ H0 H G →
  (∀ ds ρ' vs H0' H', Q ds ρ' → Ext G H0 H H0' H' → DaAll K H0' vs ds → Sat ρ' σ H0' H' G → k vs H') → ta σ H k
theorem evD_nil {Q : List PyData → MS → Prop} (q : Q [] ρ) : evD K tNil ρ Q := fun σ H0 H G k S hk => hk [] ρ [] H0 H q Ext.refl .nil S
/-- a list of one's own, given away: it stands from then on -/
theorem lo_freeze {ds : List PyData} {σ : L2.St} {H0 H : Hp} {G : FP} {v : V} {f : FP} (S : Sat ρ σ H0 H fun a => G a ∨ f a) (h : (lo K ds).holds H0 H v f) (hd : ∀ a, f a → ¬ G a) : ∃ H0', Same H0 H0' ∧ Da K H0' v (.list ds) ∧ Sat ρ σ H0' H G := by
  obtain ⟨a, xs, rfl, hf, h1, h2, h3⟩ := h
  have ha : f a := (hf a).mpr rfl
  have S0 := same_upd (o := .lst xs) h1
  exact ⟨_, S0, .lst upd_same (DaAll.mono S0 _ _ h3), S.freeze h2 (hd a ha) ha⟩
/-- a result as a datum: what is a thing of one's own is given away (its slot, too) -/
inductive asD (K : PySem.W.Frag) (ρ : MS) : Rt → PyData → MS → Prop
  | val {d : PyData} : asD K ρ (.val (dat K d)) d ρ
  | own {ds : List PyData} : asD K ρ (.val (lo K ds)) (.list ds) ρ
  | slot {i : Nat} {ds : List PyData} : ρ[i]? = some (some (lo K ds)) → asD K ρ (.at i) (.list ds) (ρ.set i (some (dat K (.list ds))))
theorem asD.go {r : Rt} {d : PyData} {ρ' : MS} {σ : L2.St} {H0 H : Hp} {G : FP} {v : V} {f : FP} (h : asD K ρ r d ρ') (S : Sat ρ σ H0 H fun a => G a ∨ f a) (hr : RtH r σ H0 H v f) (hd : ∀ a, f a → ¬ G a) : ∃ H0', Same H0 H0' ∧ Da K H0' v d ∧ Sat ρ' σ H0' H G := by
  cases h with
  | val => exact ⟨H0, Same.refl _, hr.1, S.frame fun _ => .inl⟩
  | own => exact lo_freeze S hr hd
  | @slot i ds e =>
    have S1 : Sat ρ σ H0 H G := S.frame fun _ => .inl
    obtain ⟨w, f', e1, r, d', S2⟩ := S1.take e
    obtain rfl : w = v := Option.some.inj (Option.some.inj (e1.symm.trans hr.1))
    obtain ⟨H0', s0, hda, S3⟩ := lo_freeze S2 r d'
    refine ⟨H0', s0, hda, ?_⟩
    have S4 : Sat (ρ.set i none) σ H0' H fun a => G a ∨ False := S3.frame fun a ha => ha.resolve_right id
    exact S4.back (R := dat K (.list ds)) e1 ⟨hda, fun _ h => h⟩ fun _ h => h.elim
theorem evD_cons {tr : TA} {Q : List PyData → MS → Prop} (h : ev ta ρ fun r ρ1 => ∃ d ρ2, asD K ρ1 r d ρ2 ∧ evD K tr ρ2 fun ds ρ3 => Q (d :: ds) ρ3) : evD K (tCons ta tr) ρ Q := by
  intro σ H0 H G k S hk
  refine h σ H0 H G _ S fun r1 ρ1 v1 f1 H1 H1' h1 p1 => ?_
  obtain ⟨d, ρ2, ha, h1⟩ := h1
  obtain ⟨H0', s0, hda, S2⟩ := ha.go p1.sat p1.rt p1.dis
  refine h1 σ H0' H1' G _ S2 fun ds ρ3 vs H2 H2' h2 e2 hds S3 => ?_
  exact hk (d :: ds) ρ3 (v1 :: vs) H2 H2' h2 ⟨(p1.ext.s0.trans s0).trans e2.s0, fun a ha => (e2.fr a ha).trans (p1.ext.fr a ha)⟩ (.cons (Da.mono e2.s0 _ _ hda) hds) S3
theorem post_new {G : FP} {σ : L2.St} {H0 H : Hp} {p : Addr} {o : HO} {d : PyData} (S : Sat ρ σ H0 H G) (hp : H p = none) (h : Da K (upd H0 p o) (.ref p) d) : Post G σ H0 H (.val (dat K d)) ρ (.ref p) (fun _ => False) (upd H0 p o) (upd H p o) := by
  refine ⟨⟨same_upd (S.same.free hp), fun a ha => ?_⟩, ⟨h, fun _ h => h⟩, fun _ h => h.elim, (S.new hp).frame fun a ha => ha.resolve_right id⟩
  exact upd_ne fun e => (S.fr a ha).1 (e ▸ hp)
theorem post_own {G : FP} {σ : L2.St} {H0 H : Hp} {p : Addr} {xs : List V} {ds : List PyData} (S : Sat ρ σ H0 H G) (hp : H p = none) (h : DaAll K H0 xs ds) : Post G σ H0 H (.val (lo K ds)) ρ (.ref p) (fun a => a = p) H0 (upd H p (.lst xs)) := by
  refine ⟨⟨Same.refl _, fun a ha => ?_⟩, ⟨p, xs, rfl, fun _ => Iff.rfl, S.same.free hp, upd_same, h⟩, fun a e ha => ?_, S.own hp⟩
  · exact upd_ne fun e => (S.fr a ha).1 (e ▸ hp)
  · exact (S.fr a ha).1 (e ▸ hp)
theorem ev_tup {ta : TA} (h : evD K ta ρ fun ds ρ1 => ds.length ≤ sizeLine ∧ Q (.val (dat K (.tuple ds))) ρ1) : ev (tTup ta) ρ Q := by
  intro σ H0 H G k S hk
  refine h σ H0 H G _ S fun ds ρ1 vs H1 H1' ⟨hl, q⟩ e1 hds S1 => ⟨by rw [hds.len]; exact hl, fun p hp => ?_⟩
  have P := post_new (o := .tup vs) S1 hp (d := .tuple ds) (.tup (.inl (.inl upd_same)) (DaAll.mono (same_upd (S1.same.free hp)) _ _ hds))
  exact hk _ _ _ _ _ _ q ⟨e1.trans P.ext, P.rt, P.dis, P.sat⟩
/-- a new list, of one's own -/
theorem ev_lst {ta : TA} (h : evD K ta ρ fun ds ρ1 => ds.length ≤ sizeLine ∧ Q (.val (lo K ds)) ρ1) : ev (tLst ta) ρ Q := by
  intro σ H0 H G k S hk
  refine h σ H0 H G _ S fun ds ρ1 vs H1 H1' ⟨hl, q⟩ e1 hds S1 => ⟨by rw [hds.len]; exact hl, fun p hp => ?_⟩
  have P := post_own S1 hp hds
  exact hk _ _ _ _ _ _ q ⟨e1.trans P.ext, P.rt, P.dis, P.sat⟩
/-- .. that stands -/
theorem ev_lstD {ta : TA} (h : evD K ta ρ fun ds ρ1 => ds.length ≤ sizeLine ∧ Q (.val (dat K (.list ds))) ρ1) : ev (tLst ta) ρ Q := by
  intro σ H0 H G k S hk
  refine h σ H0 H G _ S fun ds ρ1 vs H1 H1' ⟨hl, q⟩ e1 hds S1 => ⟨by rw [hds.len]; exact hl, fun p hp => ?_⟩
  have P := post_new (o := .lst vs) S1 hp (d := .list ds) (.lst upd_same (DaAll.mono (same_upd (S1.same.free hp)) _ _ hds))
  exact hk _ _ _ _ _ _ q ⟨e1.trans P.ext, P.rt, P.dis, P.sat⟩
/-! ### tests and what hangs on them -/
theorem evT_val (h : ev te ρ fun r ρ1 => ∃ b, r = .val (dat K (.bool b)) ∧ Qb b ρ1) : evT (tTest te) ρ Qb := by
  intro σ H0 H G k S hk
  refine h σ H0 H G _ S fun r ρ1 v f H1 H1' ⟨b, e, q⟩ p => ?_
  subst e
  have hv := p.rt.1
  cases hv
  exact ⟨b, rfl, hk b ρ1 H1 H1' q p.ext (p.sat.frame fun _ => .inl)⟩
theorem evT_B (h : ev te ρ fun r ρ1 => ∃ b, r = .val (dat K (.bool b)) ∧ Qb b ρ1) : evT (tB te) ρ Qb := by
  intro σ H0 H G k S hk
  refine h σ H0 H G _ S fun r ρ1 v f H1 H1' ⟨b, e, q⟩ p => ?_
  subst e
  have hv := p.rt.1
  cases hv
  exact ⟨b, rfl, hk b ρ1 H1 H1' q p.ext (p.sat.frame fun _ => .inl)⟩
theorem evT_yes (q : Qb true ρ) : evT tYes ρ Qb := fun σ H0 H G k S hk => hk true ρ H0 H q Ext.refl S
theorem evT_and (h : evT t ρ fun b ρ1 => (b = true → evT u ρ1 Qb) ∧ (b = false → Qb false ρ1)) : evT (tAnd t u) ρ Qb := by
  intro σ H0 H G k S hk
  refine h σ H0 H G _ S fun b ρ1 H1 H1' ⟨q1, q2⟩ e1 S1 => ?_
  cases b with
  | true => exact iteT (q1 rfl σ H1 H1' G k S1 fun b ρ2 H2 H2' q e2 S2 => hk b ρ2 H2 H2' q (e1.trans e2) S2)
  | false => exact iteF (hk false ρ1 H1 H1' (q2 rfl) e1 S1)
theorem evT_or (h : evT t ρ fun b ρ1 => (b = true → Qb true ρ1) ∧ (b = false → evT u ρ1 Qb)) : evT (tOr t u) ρ Qb := by
  intro σ H0 H G k S hk
  refine h σ H0 H G _ S fun b ρ1 H1 H1' ⟨q1, q2⟩ e1 S1 => ?_
  cases b with
  | true => exact iteT (hk true ρ1 H1 H1' (q1 rfl) e1 S1)
  | false => exact iteF (q2 rfl σ H1 H1' G k S1 fun b ρ2 H2 H2' q e2 S2 => hk b ρ2 H2 H2' q (e1.trans e2) S2)
theorem evT_not (h : evT t ρ fun b ρ1 => Qb (!b) ρ1) : evT (tNot t) ρ Qb := fun σ H0 H G k S hk => h σ H0 H G _ S fun b ρ1 H1 H1' q e1 S1 => hk (!b) ρ1 H1 H1' q e1 S1
theorem evT_mono {Qb' : Bool → MS → Prop} (h : evT t ρ Qb) (hq : ∀ b ρ', Qb b ρ' → Qb' b ρ') : evT t ρ Qb' := fun σ H0 H G k S hk => h σ H0 H G k S fun b ρ' H1 H1' q => hk b ρ' H1 H1' (hq _ _ q)
theorem post_ext {G : FP} {σ : L2.St} {H0 H H1 H1' : Hp} {r : Rt} {ρ' : MS} {v : V} {f : FP} {H2 H2' : Hp} (e : Ext G H0 H H1 H1') (p : Post G σ H1 H1' r ρ' v f H2 H2') : Post G σ H0 H r ρ' v f H2 H2' := ⟨e.trans p.ext, p.rt, p.dis, p.sat⟩
theorem ev_if (h : evT t ρ fun b ρ1 => (b = true → ev ta ρ1 Q) ∧ (b = false → ev tb ρ1 Q)) : ev (tIf t ta tb) ρ Q := by
  intro σ H0 H G k S hk
  refine h σ H0 H G _ S fun b ρ1 H1 H1' ⟨q1, q2⟩ e1 S1 => ?_
  cases b with
  | true => exact iteT (q1 rfl σ H1 H1' G k S1 fun r ρ2 v f H2 H2' q p => hk r ρ2 v f H2 H2' q (post_ext e1 p))
  | false => exact iteF (q2 rfl σ H1 H1' G k S1 fun r ρ2 v f H2 H2' q p => hk r ρ2 v f H2 H2' q (post_ext e1 p))
theorem ev_andV (h : ev ta ρ fun r ρ1 => ∃ b, r = .val (dat K (.bool b)) ∧ (b = true → ev tb ρ1 Q) ∧ (b = false → Q (.val (dat K (.bool false))) ρ1)) : ev (tAndV ta tb) ρ Q := by
  intro σ H0 H G k S hk
  refine h σ H0 H G _ S fun r ρ1 v f H1 H1' ⟨b, e, q1, q2⟩ p => ?_
  subst e
  have hv := p.rt.1
  cases hv
  have S1 := p.sat.frame (G' := G) fun _ => .inl
  refine ⟨b, rfl, ?_⟩
  cases b with
  | true => exact iteT (q1 rfl σ H1 H1' G k S1 fun r ρ2 v f H2 H2' q p2 => hk r ρ2 v f H2 H2' q (post_ext p.ext p2))
  | false => exact iteF (hk _ _ _ _ _ _ (q2 rfl) (post_ext p.ext (post_pure S1 (.bl false))))
theorem ev_orV (h : ev ta ρ fun r ρ1 => ∃ b, r = .val (dat K (.bool b)) ∧ (b = true → Q (.val (dat K (.bool true))) ρ1) ∧ (b = false → ev tb ρ1 Q)) : ev (tOrV ta tb) ρ Q := by
  intro σ H0 H G k S hk
  refine h σ H0 H G _ S fun r ρ1 v f H1 H1' ⟨b, e, q1, q2⟩ p => ?_
  subst e
  have hv := p.rt.1
  cases hv
  have S1 := p.sat.frame (G' := G) fun _ => .inl
  refine ⟨b, rfl, ?_⟩
  cases b with
  | true => exact iteT (hk _ _ _ _ _ _ (q1 rfl) (post_ext p.ext (post_pure S1 (.bl true))))
  | false => exact iteF (q2 rfl σ H1 H1' G k S1 fun r ρ2 v f H2 H2' q p2 => hk r ρ2 v f H2 H2' q (post_ext p.ext p2))
theorem ev_notV (h : ev ta ρ fun r ρ1 => ∃ b, r = .val (dat K (.bool b)) ∧ Q (.val (dat K (.bool (!b)))) ρ1) : ev (tNotV ta) ρ Q := by
  intro σ H0 H G k S hk
  refine h σ H0 H G _ S fun r ρ1 v f H1 H1' ⟨b, e, q⟩ p => ?_
  subst e
  have hv := p.rt.1
  cases hv
  exact ⟨b, rfl, hk _ _ _ _ _ _ q (post_ext p.ext (post_pure (p.sat.frame fun _ => .inl) (.bl _)))⟩
/-- a < b < c of whole numbers -/
theorem ev_chainI {g g' : Int → Int → Bool} (h : ev ta ρ fun r1 ρ1 => ∃ i, r1 = .val (dat K (.int i)) ∧ ev tb ρ1 fun r2 ρ2 => ∃ j, r2 = .val (dat K (.int j)) ∧
      (g i j = true → ev tc ρ2 fun r3 ρ3 => ∃ l, r3 = .val (dat K (.int l)) ∧ Q (.val (dat K (.bool (g' j l)))) ρ3) ∧ (g i j = false → Q (.val (dat K (.bool false))) ρ2)) :
    ev (tChain (rI0 fun i j => .bl (g i j)) (rI0 fun i j => .bl (g' i j)) ta tb tc) ρ Q := by
  intro σ H0 H G k S hk
  refine h σ H0 H G _ S fun r1 ρ1 v1 f1 H1 H1' ⟨i, ei, h1⟩ p1 => ?_
  subst ei
  have S1 := p1.sat.frame (G' := G) fun _ => .inl
  have hv1 := p1.rt.1
  cases hv1
  refine h1 σ H1 H1' G _ S1 fun r2 ρ2 v2 f2 H2 H2' ⟨j, ej, q1, q2⟩ p2 => ?_
  subst ej
  have S2 := p2.sat.frame (G' := G) fun _ => .inl
  have hv2 := p2.rt.1
  cases hv2
  have e2 := p1.ext.trans p2.ext
  refine ⟨i, j, rfl, rfl, g i j, rfl, ?_⟩
  cases hg : g i j with
  | true =>
    refine iteT (q1 hg σ H2 H2' G _ S2 fun r3 ρ3 v3 f3 H3 H3' ⟨l, el, q⟩ p3 => ?_)
    subst el
    have hv3 := p3.rt.1
    cases hv3
    exact ⟨j, l, rfl, rfl, hk _ _ _ _ _ _ q (post_ext e2 (post_ext p3.ext (post_pure (p3.sat.frame fun _ => .inl) (.bl _))))⟩
  | false => exact iteF (hk _ _ _ _ _ _ (q2 hg) (post_ext e2 (post_pure S2 (.bl false))))
/-! ### targets -/
/-- the value goes to the slots l (not among the first np) -/
def tg (l : List Nat) (g : TG) (r : Rt) (ρ : MS) (Q : MS → Prop) : Prop := ∀ (σ : L2.St) (H0 H : Hp) (G : FP) (v : V) (f : FP) (k : L2.St → Hp → Prop), Sat ρ σ H0 H (fun a => G a ∨ f a) → RtH r σ H0 H v f → (∀ a, f a → ¬ G a) →
  (∀ ρ' σ' H0' H', Q ρ' → (∀ n, (∀ i ∈ l, n ≤ i) → σ'.take n = σ.take n) → (∀ vs : List Nat, (∀ i ∈ l, i ∈ vs) → wipe σ' vs = wipe σ vs) → Ext G H0 H H0' H' → Sat ρ' σ' H0' H' G → k σ' H') → g v σ H k
theorem take_set {α : Type} {x : α} : ∀ {l : List α} {i n : Nat}, n ≤ i → (l.set i x).take n = l.take n
  | [], _, _, _ => rfl
  | y :: l, i, 0, _ => by simp
  | y :: l, 0, n + 1, h => absurd h (Nat.not_succ_le_zero _)
  | y :: l, i + 1, n + 1, h => by
    show y :: (l.set i x).take n = y :: l.take n
    rw [take_set (Nat.le_of_succ_le_succ h)]
theorem wipe_set {σ : L2.St} {i : Nat} {x : Option V} : ∀ {vs : List Nat}, i ∈ vs → wipe (σ.set i x) vs = wipe σ vs
  | [], h => by cases h
  | v :: vs, h => by
    unfold wipe
    by_cases hv : i ∈ vs
    · rw [wipe_set hv]
    · have e : i = v := (List.mem_cons.mp h).resolve_right hv
      subst e
      have out : ∀ {σ : L2.St} {ws : List Nat}, i ∉ ws → wipe (σ.set i x) ws = (wipe σ ws).set i x := fun {σ ws} => by
        induction ws with
        | nil => intro _; rfl
        | cons w ws ih =>
          intro hw
          unfold wipe
          rw [ih fun z => hw (List.mem_cons_of_mem _ z), List.set_comm _ _ (by intro e; exact hw (by rw [e]; exact List.mem_cons_self))]
      rw [out hv, List.set_set]
theorem tg_name {i : Nat} {R : Res} {Q : MS → Prop} (q : Q (ρ.set i (some R))) : tg [i] (gName i) (.val R) ρ Q := by
  intro σ H0 H G v f k S hr hd hk
  exact hk _ _ H0 H q (fun n hn => take_set (hn i List.mem_cons_self)) (fun vs hv => wipe_set (hv i List.mem_cons_self)) Ext.refl (S.set hr hd)
/-- a thing of one's own moves to another slot -/
theorem tg_move {i j : Nat} {R : Res} {Q : MS → Prop} (h : ρ[j]? = some (some R)) (q : Q ((ρ.set j none).set i (some R))) : tg [i] (gName i) (.at j) ρ Q := by
  intro σ H0 H G v f k S hr hd hk
  have S1 : Sat ρ σ H0 H G := S.frame fun _ => .inl
  obtain ⟨w, f', e, r, d, S2⟩ := S1.take h
  obtain rfl : w = v := Option.some.inj (Option.some.inj (e.symm.trans hr.1))
  exact hk _ _ H0 H q (fun n hn => take_set (hn i List.mem_cons_self)) (fun vs hv => wipe_set (hv i List.mem_cons_self)) Ext.refl (S2.set r d)
/-- many targets, the items of a tuple -/
def tgs (K : PySem.W.Frag) (l : List Nat) (g : TGs) (ds : List PyData) (ρ : MS) (Q : MS → Prop) : Prop := ∀ (σ : L2.St) (H0 H : Hp) (G : FP) (vs : List V) (k : L2.St → Hp → Prop), Sat ρ σ H0 H G → DaAll K H0 vs ds →
  (∀ ρ' σ' H0' H', Q ρ' → (∀ n, (∀ i ∈ l, n ≤ i) → σ'.take n = σ.take n) → (∀ vs : List Nat, (∀ i ∈ l, i ∈ vs) → wipe σ' vs = wipe σ vs) → Ext G H0 H H0' H' → Sat ρ' σ' H0' H' G → k σ' H') → g vs σ H k
theorem tgs_nil {Q : MS → Prop} (q : Q ρ) : tgs K [] gNil [] ρ Q := by
  intro σ H0 H G vs k S h hk
  cases h
  exact ⟨rfl, hk ρ σ H0 H q (fun _ _ => rfl) (fun _ _ => rfl) Ext.refl S⟩
theorem tgs_cons {l1 l2 : List Nat} {g : TG} {gs : TGs} {d : PyData} {ds : List PyData} {Q : MS → Prop} (h : tg l1 g (.val (dat K d)) ρ fun ρ1 => tgs K l2 gs ds ρ1 Q) : tgs K (l1 ++ l2) (gCons g gs) (d :: ds) ρ Q := by
  intro σ H0 H G vs k S hds hk
  cases hds with
  | cons h1 h2 =>
    refine ⟨_, _, rfl, h σ H0 H G _ (fun _ => False) _ (S.frame fun a ha => ha.resolve_right id) ⟨h1, fun _ h => h⟩ (fun _ h => h.elim) fun ρ1 σ1 H1 H1' q1 t1 w1 e1 S1 => ?_⟩
    exact q1 σ1 H1 H1' G _ _ S1 (DaAll.mono e1.s0 _ _ h2) fun ρ2 σ2 H2 H2' q2 t2 w2 e2 S2 => hk ρ2 σ2 H2 H2' q2 (fun n hn => (t2 n fun i hi => hn i (List.mem_append_right _ hi)).trans (t1 n fun i hi => hn i (List.mem_append_left _ hi)))
      (fun vs hv => (w2 vs fun i hi => hv i (List.mem_append_right _ hi)).trans (w1 vs fun i hi => hv i (List.mem_append_left _ hi))) (e1.trans e2) S2
theorem tg_tup {l : List Nat} {n : Nat} {g : TGs} {ds : List PyData} {Q : MS → Prop} (hn : ds.length = n) (h : tgs K l g ds ρ Q) : tg l (gTup K n g) (.val (dat K (.tuple ds))) ρ Q := by
  intro σ H0 H G v f k S hr hd hk
  have hv := hr.1
  cases hv with
  | tup h1 h2 =>
    exact ⟨_, _, rfl, sameT S.same h1, by rw [h2.len]; exact hn, h σ H0 H G _ _ (S.frame fun _ => .inl) h2 hk⟩
/-! ### statements -/
def Out.to (Φ : Out) (nx : MS → Prop) : Out := { Φ with nx := nx }
theorem ex_seq (h : ex np ts ρ (Φ.to fun ρ1 => ex np us ρ1 Φ)) : ex np (tSeq ts us) ρ Φ := by
  intro σ H0 H G D S kn kr kb kc
  refine h σ H0 H G _ S (fun ρ1 σ1 H1 H1' q1 t1 e1 S1 => ?_) kr kb kc
  refine q1 σ1 H1 H1' G D S1 (fun ρ2 σ2 H2 H2' q2 t2 e2 S2 => kn ρ2 σ2 H2 H2' q2 (t2.trans t1) (e1.trans e2) S2) (fun r ρ2 σ2 v f H2 H2' q2 t2 p2 => kr r ρ2 σ2 v f H2 H2' q2 (t2.trans t1) (post_ext e1 p2))
    (fun ρ2 σ2 H2 H2' q2 t2 e2 S2 => kb ρ2 σ2 H2 H2' q2 (t2.trans t1) (e1.trans e2) S2) fun ρ2 σ2 H2 H2' q2 t2 e2 S2 => kc ρ2 σ2 H2 H2' q2 (t2.trans t1) (e1.trans e2) S2
theorem ex_next (q : Φ.nx ρ) : ex np tNext ρ Φ := fun σ H0 H G D S kn _ _ _ => kn ρ σ H0 H q rfl Ext.refl S
theorem ex_break (q : Φ.bk ρ) : ex np tBreak ρ Φ := fun σ H0 H G D S _ _ kb _ => kb ρ σ H0 H q rfl Ext.refl S
theorem ex_cont (q : Φ.ct ρ) : ex np tCont ρ Φ := fun σ H0 H G D S _ _ _ kc => kc ρ σ H0 H q rfl Ext.refl S
theorem ex_drop (h : ev te ρ fun _ ρ1 => Φ.nx ρ1) : ex np (tDrop te) ρ Φ := fun σ H0 H G D S kn _ _ _ => h σ H0 H G _ S fun r ρ1 v f H1 H1' q p => kn ρ1 σ H1 H1' q rfl p.ext (p.sat.frame fun _ => .inl)
theorem ex_ret (h : ev te ρ Φ.rt) : ex np (tRet te) ρ Φ := fun σ H0 H G D S _ kr _ _ => h σ H0 H G _ S fun r ρ1 v f H1 H1' q p => kr r ρ1 σ v f H1 H1' q rfl p
theorem ex_retN (h : Φ.rt (.val (dat K .none)) ρ) : ex np tRetN ρ Φ := fun σ H0 H G D S _ kr _ _ => kr _ ρ σ _ _ H0 H h rfl (post_pure S .non)
theorem ex_asg {l : List Nat} {g : TG} (h : ev te ρ fun r ρ1 => tg l g r ρ1 Φ.nx) (hl : ∀ i ∈ l, np ≤ i) : ex np (tAsg te g) ρ Φ := by
  intro σ H0 H G D S kn _ _ _
  refine h σ H0 H G _ S fun r ρ1 v f H1 H1' q p => ?_
  exact q σ H1 H1' G v f _ p.sat p.rt p.dis fun ρ2 σ2 H2 H2' q2 t2 _ e2 S2 => kn ρ2 σ2 H2 H2' q2 (t2 np hl) (p.ext.trans e2) S2
theorem ex_if (h : evT t ρ fun b ρ1 => (b = true → ex np ts ρ1 Φ) ∧ (b = false → ex np us ρ1 Φ)) : ex np (tIfS t ts us) ρ Φ := by
  intro σ H0 H G D S kn kr kb kc
  refine h σ H0 H G _ S fun b ρ1 H1 H1' ⟨q1, q2⟩ e1 S1 => ?_
  have go : ∀ {ws : TS}, ex np ws ρ1 Φ → ws D σ H1' := fun {ws} hw => hw σ H1 H1' G D S1 (fun ρ2 σ2 H2 H2' q2 t2 e2 S2 => kn ρ2 σ2 H2 H2' q2 t2 (e1.trans e2) S2) (fun r ρ2 σ2 v f H2 H2' q2 t2 p2 => kr r ρ2 σ2 v f H2 H2' q2 t2 (post_ext e1 p2))
    (fun ρ2 σ2 H2 H2' q2 t2 e2 S2 => kb ρ2 σ2 H2 H2' q2 t2 (e1.trans e2) S2) fun ρ2 σ2 H2 H2' q2 t2 e2 S2 => kc ρ2 σ2 H2 H2' q2 t2 (e1.trans e2) S2
  cases b with
  | true => exact iteT (go (q1 rfl))
  | false => exact iteF (go (q2 rfl))
/-- a, b = e, f -/
theorem ex_par {i j : Nat} {ta : TA} (hij : i ≠ j) (hi : np ≤ i) (hj : np ≤ j) (h : evA ta ρ fun rs ρ1 => ∃ r1 r2, rs = [r1, r2] ∧ ∃ R1 R2, r1 = .val R1 ∧ r2 = .val R2 ∧ Φ.nx ((ρ1.set i (some R1)).set j (some R2))) : ex np (tPar i j ta) ρ Φ := by
  intro σ H0 H G D S kn _ _ _
  refine h σ H0 H G _ S fun rs ρ1 vs f H1 H1' ⟨r1, r2, e, R1, R2, e1, e2, q⟩ p => ?_
  subst e e1 e2
  obtain ⟨v1, vs1, f1, g1, rfl, h1, ⟨v2, vs2, f2, g2, rfl, h2, ⟨rfl, h3⟩, u2, d2⟩, u1, d1⟩ := p.rt
  have S1 := p.sat.frame (G' := fun a => (G a ∨ f2 a) ∨ f1 a) fun a ha => by
    rcases ha with (ha | ha) | ha
    · exact .inl ha
    · exact .inr ((u1 a).mpr (.inr ((u2 a).mpr (.inl ha))))
    · exact .inr ((u1 a).mpr (.inl ha))
  have D1 : ∀ a, f1 a → ¬ (G a ∨ f2 a) := fun a ha hb => hb.elim (p.dis a ((u1 a).mpr (.inl ha))) fun hb => d1 a ha ((u2 a).mpr (.inl hb))
  have S2 := S1.set (i := i) h1 D1
  have S3 := S2.set (i := j) h2 fun a ha => p.dis a ((u1 a).mpr (.inr ((u2 a).mpr (.inl ha))))
  exact ⟨v1, v2, rfl, kn _ _ H1 H1' q ((take_set hj).trans (take_set hi)) p.ext S3⟩
/-- what is known may be told otherwise: a slot's list is given away, or a slot is forgotten -/
theorem ex_frz {i : Nat} {ds : List PyData} (h : ρ[i]? = some (some (lo K ds))) (q : ex np ts (ρ.set i (some (dat K (.list ds)))) Φ) : ex np ts ρ Φ := by
  intro σ H0 H G D S kn kr kb kc
  obtain ⟨w, f', e1, r, d', S2⟩ := S.take h
  obtain ⟨H0', s0, hda, S3⟩ := lo_freeze S2 r d'
  have S4 : Sat (ρ.set i none) σ H0' H fun a => G a ∨ False := S3.frame fun a ha => ha.resolve_right id
  have S5 := S4.back (R := dat K (.list ds)) e1 ⟨hda, fun _ h => h⟩ fun _ h => h.elim
  have e0 : Ext G H0 H H0' H := ⟨s0, fun _ _ => rfl⟩
  exact q σ H0' H G D S5 (fun ρ2 σ2 H2 H2' q2 t2 e2 S2 => kn ρ2 σ2 H2 H2' q2 t2 (e0.trans e2) S2) (fun r ρ2 σ2 v f H2 H2' q2 t2 p2 => kr r ρ2 σ2 v f H2 H2' q2 t2 (post_ext e0 p2))
    (fun ρ2 σ2 H2 H2' q2 t2 e2 S2 => kb ρ2 σ2 H2 H2' q2 t2 (e0.trans e2) S2) fun ρ2 σ2 H2 H2' q2 t2 e2 S2 => kc ρ2 σ2 H2 H2' q2 t2 (e0.trans e2) S2
theorem ex_forget (i : Nat) (q : ex np ts (ρ.set i none) Φ) : ex np ts ρ Φ := fun σ H0 H G D S kn kr kb kc => q σ H0 H G D (S.drop i) kn kr kb kc
theorem ex_mono {Φ' : Out} (h : ex np ts ρ Φ) (h1 : ∀ ρ, Φ.nx ρ → Φ'.nx ρ) (h2 : ∀ r ρ, Φ.rt r ρ → Φ'.rt r ρ) (h3 : ∀ ρ, Φ.bk ρ → Φ'.bk ρ) (h4 : ∀ ρ, Φ.ct ρ → Φ'.ct ρ) : ex np ts ρ Φ' :=
  fun σ H0 H G D S kn kr kb kc => h σ H0 H G D S (fun ρ σ A B q => kn ρ σ A B (h1 _ q)) (fun r ρ σ v f A B q => kr r ρ σ v f A B (h2 _ _ q)) (fun ρ σ A B q => kb ρ σ A B (h3 _ q)) fun ρ σ A B q => kc ρ σ A B (h4 _ q)
/-- x += e -/
theorem ex_aug {i : Nat} {g : Int → Int → Int} {n : Int} (hi : np ≤ i) (h0 : ρ[i]? = some (some (dat K (.int n)))) (h : ev te ρ fun r ρ1 => ∃ m, r = .val (dat K (.int m)) ∧ Φ.nx (ρ1.set i (some (dat K (.int (g n m)))))) : ex np (tAug i te (ipI g)) ρ Φ := by
  intro σ H0 H G D S kn _ _ _
  obtain ⟨v, f, e, r, d⟩ := S.get h0
  have hv := r.1
  cases hv
  refine ⟨.int n, e, h σ H0 H G _ S fun r ρ1 v f H1 H1' ⟨m, er, q⟩ p => ?_⟩
  subst er
  have hv := p.rt.1
  cases hv
  have S1 : Sat ρ1 σ H1 H1' fun a => G a ∨ False := p.sat.frame fun a ha => ha.elim .inl False.elim
  exact ⟨n, m, rfl, rfl, kn _ _ H1 H1' q (take_set hi) p.ext (S1.set (R := dat K (.int (g n m))) (v := .int (g n m)) ⟨.int _, fun _ h => h⟩ fun _ h => h.elim)⟩
end
end ML

namespace ML
open PySem PySem.Spec PyProof.Rows L2 KS GL LB
section
variable {K : PySem.W.Frag} {ρ : MS} {Q : Rt → MS → Prop} {Qb : Bool → MS → Prop} {ta tb te tc : TE} {t u : TT} {np : Nat} {Φ : Out} {ts us : TS}
/-! ### what is walked -/
/-- at turn i a datum comes -/
def Yd (K : PySem.W.Frag) (H0 : Hp) (item : Nat → PyData) : Nat → Hp → V → Hp → Prop := fun i H x H' => ∀ (ρ : MS) (σ : L2.St) (H0' : Hp) (G : FP), Same H0 H0' → Sat ρ σ H0' H G → ∃ H0'', Ext G H0' H H0'' H' ∧ Sat ρ σ H0'' H' G ∧ Da K H0'' x (item i)
def wk (K : PySem.W.Frag) (wi : TI) (ρ : MS) (C : Nat → (Nat → PyData) → MS → Prop) : Prop := ∀ (σ : L2.St) (H0 H : Hp) (G : FP) (k : It → Hp → Prop), Sat ρ σ H0 H G →
  (∀ n item ρ' J H0' H', C n item ρ' → Ext G H0 H H0' H' → Sat ρ' σ H0' H' G → Walk J n (fun H2 => Same H0' H2) (Yd K H0' item) → k J H') → wi σ H k
theorem yd_at {H0 : Hp} {vs : List V} {ds : List PyData} (h : DaAll K H0 vs ds) {i : Nat} {H H' : Hp} {x : V} (y : YAt vs i H x H') : Yd K H0 (fun i => ds.getD i .none) i H x H' := by
  obtain ⟨rfl, e⟩ := y
  intro ρ σ H0' G s S
  obtain ⟨d, e2, hd⟩ := h.get' e
  refine ⟨H0', Ext.refl, S, ?_⟩
  have : ds.getD i .none = d := by rw [List.getD_eq_getElem?_getD, e2]; rfl
  show Da K H0' x (ds.getD i .none)
  rw [this]
  exact Da.mono s _ _ hd
theorem wk_list {C : Nat → (Nat → PyData) → MS → Prop} (h : ev te ρ fun r ρ1 => ∃ ds ρ2, asD K ρ1 r (.list ds) ρ2 ∧ C ds.length (fun i => ds.getD i .none) ρ2) : wk K (iList K te) ρ C := by
  intro σ H0 H G k S hk
  refine h σ H0 H G _ S fun r ρ1 v f H1 H1' ⟨ds, ρ2, ha, q⟩ p => ?_
  obtain ⟨H0', s0, hda, S2⟩ := ha.go p.sat p.rt p.dis
  cases hda with
  | lst h1 h2 =>
    rename_i a vs
    have hl := S2.same _ _ h1
    refine ⟨a, rfl, ⟨vs, .inl (.inl hl)⟩, hk _ _ ρ2 _ H0' H1' q ⟨p.ext.s0.trans s0, p.ext.fr⟩ S2 ?_⟩
    rw [← h2.len]
    exact (walk_list (K := K) (a := a) (xs := vs)).mono (fun H s => .inl (.inl (s _ _ h1))) fun i H x H' _ _ y => yd_at h2 y
theorem wk_tup {C : Nat → (Nat → PyData) → MS → Prop} (h : ev te ρ fun r ρ1 => ∃ ds ρ2, asD K ρ1 r (.tuple ds) ρ2 ∧ C ds.length (fun i => ds.getD i .none) ρ2) : wk K (iTup K te) ρ C := by
  intro σ H0 H G k S hk
  refine h σ H0 H G _ S fun r ρ1 v f H1 H1' ⟨ds, ρ2, ha, q⟩ p => ?_
  obtain ⟨H0', s0, hda, S2⟩ := ha.go p.sat p.rt p.dis
  cases hda with
  | tup h1 h2 =>
    rename_i a vs
    refine ⟨a, rfl, ⟨vs, sameT S2.same h1⟩, hk _ _ ρ2 _ H0' H1' q ⟨p.ext.s0.trans s0, p.ext.fr⟩ S2 ?_⟩
    rw [← h2.len]
    exact (L2.walk_tup (K := K) (a := a) (xs := vs)).mono (fun H s => sameT s h1) fun i H x H' _ _ y => yd_at h2 y
theorem wk_rng1 {C : Nat → (Nat → PyData) → MS → Prop} (h : evD K ta' ρ fun ds ρ1 => ∃ j : Int, ds = [.int j] ∧ j < 2 ^ 62 ∧ -(2 ^ 62) ≤ j ∧ C j.toNat (fun i => .int i) ρ1) : wk K (iRng1 ta') ρ C := by
  intro σ H0 H G k S hk
  refine h σ H0 H G _ S fun ds ρ1 vs H1 H1' ⟨j, e, h1, h2, q⟩ e1 hd S1 => ?_
  subst e
  obtain ⟨⟩ | ⟨hj, ⟨⟩⟩ := hd
  cases hj
  refine ⟨j, rfl, h2, h1, hk _ _ ρ1 _ H1 H1' q e1 S1 ?_⟩
  refine (walk_range (lo := 0) (n := j.toNat)).mono (fun _ _ => True.intro) fun i H x H' _ _ y => ?_
  obtain ⟨rfl, rfl⟩ := y
  intro ρ σ H0' G s S
  refine ⟨H0', Ext.refl, S, ?_⟩
  show Da K H0' (.int (0 + i)) (.int i)
  rw [Int.zero_add]
  exact .int _
theorem wk_rng2 {ta' : TA} {C : Nat → (Nat → PyData) → MS → Prop} (h : evD K ta' ρ fun ds ρ1 => ∃ i j : Int, ds = [.int i, .int j] ∧ (-(2 ^ 62) ≤ i ∧ i < 2 ^ 62 ∧ -(2 ^ 62) ≤ j ∧ j < 2 ^ 62) ∧ C (j - i).toNat (fun x => .int (i + x)) ρ1) : wk K (iRng2 ta') ρ C := by
  intro σ H0 H G k S hk
  refine h σ H0 H G _ S fun ds ρ1 vs H1 H1' ⟨i, j, e, h1, q⟩ e1 hd S1 => ?_
  subst e
  obtain ⟨⟩ | ⟨hi, hd⟩ := hd
  obtain ⟨⟩ | ⟨hj, ⟨⟩⟩ := hd
  cases hi
  cases hj
  refine ⟨i, j, rfl, h1, hk _ _ ρ1 _ H1 H1' q e1 S1 ?_⟩
  refine (walk_range (lo := i) (n := (j - i).toNat)).mono (fun _ _ => True.intro) fun x H v H' _ _ y => ?_
  obtain ⟨rfl, rfl⟩ := y
  intro ρ σ H0' G s S
  exact ⟨H0', Ext.refl, S, .int _⟩
theorem wk_str {C : Nat → (Nat → PyData) → MS → Prop} (h : ev te ρ fun r ρ1 => ∃ z, r = .val (dat K (.str z)) ∧ C z.cps.size (fun i => .str ⟨#[z.cps.getD i 0]⟩) ρ1) : wk K (iStr te) ρ C := by
  intro σ H0 H G k S hk
  refine h σ H0 H G _ S fun r ρ1 v f H1 H1' ⟨z, e, q⟩ p => ?_
  subst e
  have hv := p.rt.1
  cases hv
  refine ⟨z, rfl, hk _ _ ρ1 _ H1 H1' q p.ext (p.sat.frame fun _ => .inl) ?_⟩
  refine (L2.walk_str (z := z)).mono (fun _ _ => True.intro) fun i H x H' _ _ y => ?_
  obtain ⟨rfl, c, e, rfl⟩ := y
  intro ρ σ H0' G s S
  refine ⟨H0', Ext.refl, S, ?_⟩
  have : z.cps.getD i 0 = c := by rw [Array.getD_eq_getD_getElem?, e]; rfl
  show Da K H0' (.str ⟨#[c]⟩) (.str ⟨#[z.cps.getD i 0]⟩)
  rw [this]
  exact .str _
/-! ### for -/
theorem ex_for {wi : TI} {g : TG} (h : wk K wi ρ fun n item ρ1 => ∃ I : Nat → MS → Prop, I 0 ρ1 ∧ (∀ i ρ', i < n → I i ρ' → ∃ l, (∀ j ∈ l, np ≤ j) ∧ tg l g (.val (dat K (item i))) ρ' fun ρ2 => ex np ts ρ2 ⟨I (i + 1), Φ.rt, Φ.nx, I (i + 1)⟩) ∧ ∀ ρ', I n ρ' → Φ.nx ρ') : ex np (tFor wi g ts) ρ Φ := by
  intro σ H0 H G D S kn kr kb kc
  refine h σ H0 H G _ S fun n item ρ1 J H1 H1' ⟨I, i0, step, fin⟩ e1 S1 w => ?_
  refine for_it w (fun i σ' H' => ∃ ρ' H0', I i ρ' ∧ σ'.take np = σ.take np ∧ Ext G H1 H1' H0' H' ∧ Sat ρ' σ' H0' H' G) ⟨ρ1, H1, i0, rfl, Ext.refl, S1⟩ (fun i σ' H' _ ⟨ρ', H0', _, _, e, S'⟩ => e.s0.trans S'.same) ?_ ?_
  · rintro i x σ' H' H'' hi ⟨ρ', H0', hI, ht, e2, S2⟩ y
    obtain ⟨H0'', e3, S3, hx⟩ := y ρ' σ' H0' G e2.s0 S2
    obtain ⟨l, hl, hg⟩ := step i ρ' hi hI
    refine hg σ' H0'' H'' G x (fun _ => False) _ (S3.frame fun a ha => ha.resolve_right id) ⟨hx, fun _ h => h⟩ (fun _ h => h.elim) fun ρ2 σ2 H2 H2' q2 t2 _ e4 S4 => ?_
    have t3 := (t2 np hl).trans ht
    have e5 := (e2.trans e3).trans e4
    have again : ∀ ρ3 σ3 H3 H3', I (i + 1) ρ3 → σ3.take np = σ2.take np → Ext G H2 H2' H3 H3' → Sat ρ3 σ3 H3 H3' G → ∃ ρ' H0', I (i + 1) ρ' ∧ σ3.take np = σ.take np ∧ Ext G H1 H1' H0' H3' ∧ Sat ρ' σ3 H0' H3' G := fun ρ3 σ3 H3 H3' q3 t4 e6 S5 => ⟨ρ3, H3, q3, t4.trans t3, e5.trans e6, S5⟩
    exact q2 σ2 H2 H2' G _ S4 again (fun r ρ3 σ3 v f H3 H3' q3 t4 p3 => kr r ρ3 σ3 v f H3 H3' q3 (t4.trans t3) (post_ext (e1.trans e5) p3)) (fun ρ3 σ3 H3 H3' q3 t4 e6 S5 => kn ρ3 σ3 H3 H3' q3 (t4.trans t3) ((e1.trans e5).trans e6) S5) again
  · rintro σ' H' ⟨ρ', H0', hI, ht, e2, S2⟩
    exact kn ρ' σ' H0' H' (fin ρ' hI) ht (e1.trans e2) S2
/-- by what has been taken of a list -/
theorem by_pre {α : Type} {xs : List α} {f : α → PyData} {P : Nat → PyData → (MS → Prop) → MS → Prop} {nx : MS → Prop} (I : List α → MS → Prop) {ρ1 : MS} (h0 : I [] ρ1) (hs : ∀ pre x post ρ', xs = pre ++ x :: post → I pre ρ' → P pre.length (f x) (I (pre ++ [x])) ρ') (hd : ∀ ρ', I xs ρ' → nx ρ') :
    ∃ I' : Nat → MS → Prop, I' 0 ρ1 ∧ (∀ i ρ', i < (xs.map f).length → I' i ρ' → P i ((xs.map f).getD i .none) (I' (i + 1)) ρ') ∧ ∀ ρ', I' (xs.map f).length ρ' → nx ρ' := by
  refine ⟨fun i => I (xs.take i), by simpa using h0, fun i ρ' hi hI => ?_, fun ρ' hI => ?_⟩
  · rw [List.length_map] at hi
    have e1 : xs = xs.take i ++ xs[i] :: xs.drop (i + 1) := by rw [List.getElem_cons_drop, List.take_append_drop]
    have e2 : (xs.map f).getD i .none = f xs[i] := by rw [List.getD_eq_getElem?_getD, List.getElem?_map, List.getElem?_eq_getElem hi]; rfl
    have e3 : xs.take (i + 1) = xs.take i ++ [xs[i]] := by rw [List.take_succ, List.getElem?_eq_getElem hi]; rfl
    have e4 : (xs.take i).length = i := by rw [List.length_take]; omega
    have := hs (xs.take i) xs[i] (xs.drop (i + 1)) ρ' e1 hI
    rw [e4] at this
    rw [e2]
    simp only [e3]
    exact this
  · rw [List.length_map, List.take_length] at hI
    exact hd ρ' hI
/-! ### while -/
theorem ex_while (I : Nat → MS → Prop) (h0 : ∃ m, I m ρ) (h : ∀ m ρ', I m ρ' → evT t ρ' fun b ρ1 => (b = true → ex np ts ρ1 ⟨fun ρ2 => ∃ m', m' < m ∧ I m' ρ2, Φ.rt, Φ.nx, fun ρ2 => ∃ m', m' < m ∧ I m' ρ2⟩) ∧ (b = false → Φ.nx ρ1)) : ex np (tWhile t ts) ρ Φ := by
  intro σ H0 H G D S kn kr kb kc
  refine ⟨fun m σ' H' => ∃ ρ' H0', I m ρ' ∧ σ'.take np = σ.take np ∧ Ext G H0 H H0' H' ∧ Sat ρ' σ' H0' H' G, ?_, ?_⟩
  · obtain ⟨m, hm⟩ := h0
    exact ⟨m, ρ, H0, hm, rfl, Ext.refl, S⟩
  · rintro m σ' H' ⟨ρ', H0', hI, ht, e1, S1⟩
    refine h m ρ' hI σ' H0' H' G _ S1 fun b ρ1 H1 H1' ⟨q1, q2⟩ e2 S2 => ?_
    have e12 := e1.trans e2
    cases b with
    | false => exact iteF (kn ρ1 σ' H1 H1' (q2 rfl) ht e12 S2)
    | true =>
      refine iteT ⟨fun σ2 H2' => ∃ m', m' < m ∧ ∃ ρ2 H2, I m' ρ2 ∧ σ2.take np = σ.take np ∧ Ext G H0 H H2 H2' ∧ Sat ρ2 σ2 H2 H2' G, fun σ2 H2' ⟨m', hm, z⟩ => ⟨m', hm, z⟩, ?_⟩
      have again : ∀ ρ2 σ2 H2 H2', (∃ m', m' < m ∧ I m' ρ2) → σ2.take np = σ'.take np → Ext G H1 H1' H2 H2' → Sat ρ2 σ2 H2 H2' G → ∃ m', m' < m ∧ ∃ ρ2 H2, I m' ρ2 ∧ σ2.take np = σ.take np ∧ Ext G H0 H H2 H2' ∧ Sat ρ2 σ2 H2 H2' G := fun ρ2 σ2 H2 H2' ⟨m', hm, q⟩ t2 e3 S3 => ⟨m', hm, ρ2, H2, q, t2.trans ht, e12.trans e3, S3⟩
      exact q1 rfl σ' H1 H1' G _ S2 again (fun r ρ3 σ3 v f H3 H3' q3 t4 p3 => kr r ρ3 σ3 v f H3 H3' q3 (t4.trans ht) (post_ext e12 p3)) (fun ρ3 σ3 H3 H3' q3 t4 e6 S5 => kn ρ3 σ3 H3 H3' q3 (t4.trans ht) (e12.trans e6) S5) again
/-! ### comprehensions -/
def wipeM (ρ : MS) : List Nat → MS
  | [] => ρ
  | v :: vs => (wipeM ρ vs).set v none
theorem Sat.wipe {σ : L2.St} {H0 H : Hp} {G : FP} (S : Sat ρ σ H0 H G) : ∀ vs : List Nat, Sat (wipeM ρ vs) (L2.wipe σ vs) H0 H G
  | [] => S
  | v :: vs => (Sat.wipe S vs).forget v none
theorem Sat.unwipe {σ : L2.St} {H0 H : Hp} {G : FP} {vs : List Nat} (S : Sat ρ (L2.wipe σ vs) H0 H G) : Sat ρ σ H0 H G := by
  obtain ⟨F, h1, h2, h3, h4⟩ := S.sl
  refine ⟨S.same, by rw [← wipe_length σ vs]; exact S.len, S.fr, F, fun i R hR => ?_, h2, h3, h4⟩
  obtain ⟨v, e, r⟩ := h1 i R hR
  exact ⟨v, (wipe_some e).1, r⟩
theorem wipe_sub {σ : L2.St} {vs : List Nat} : ∀ {ws : List Nat}, (∀ i ∈ ws, i ∈ vs) → L2.wipe (L2.wipe σ ws) vs = L2.wipe σ vs
  | [], _ => rfl
  | w :: ws, h => by
    show L2.wipe ((L2.wipe σ ws).set w none) vs = _
    rw [wipe_set (h w List.mem_cons_self), wipe_sub fun i hi => h i (List.mem_cons_of_mem _ hi)]
theorem wipe_wipe (σ : L2.St) (vs : List Nat) : L2.wipe (L2.wipe σ vs) vs = L2.wipe σ vs := wipe_sub fun _ h => h
theorem lc_gen {wi : TI} {g : TG} {vs : List Nat} {k : VK} {σ : L2.St} {H0 H : Hp} {G : FP} (S : Sat ρ σ H0 H G) (C : List PyData → MS → Prop)
    (h : wk K wi ρ fun n item ρ1 => n ≤ sizeLine ∧ ∃ I : Nat → List PyData → MS → Prop, I 0 [] (wipeM ρ1 vs) ∧ (∀ i ds ρ', i < n → I i ds ρ' → ∃ l, (∀ j ∈ l, j ∈ vs) ∧ tg l g (.val (dat K (item i))) ρ' fun ρ2 => evT t ρ2 fun b ρ3 => (b = true → ev te ρ3 fun r ρ4 => ∃ d ρ5, asD K ρ4 r d ρ5 ∧ I (i + 1) (ds ++ [d]) (wipeM ρ5 vs)) ∧ (b = false → I (i + 1) ds (wipeM ρ3 vs))) ∧ ∀ ds ρ', I n ds ρ' → C ds ρ')
    (hk : ∀ ds ρ' D H0' H' acc, C ds ρ' → Ext G H0 H H0' H' → Sat ρ' σ H0' H' (fun a => G a ∨ a = D) → H' D = some (.lst acc) → DaAll K H0' acc ds → ¬ G D → k (.ref D) H') : tLc wi g t te vs σ H k := by
  refine h σ H0 H G _ S fun n item ρ1 J H1 H1' ⟨hn, I, i0, step, fin⟩ e1 S1 w D hD => ?_
  have hDG : ¬ G D := fun e => (S1.fr D e).1 hD
  have S1' : Sat (wipeM ρ1 vs) (L2.wipe σ vs) H1 (upd H1' D (.lst [])) fun a => G a ∨ a = D := (S1.wipe vs).own hD
  refine lc_it w (fun i H' => ∃ ρ' H0' acc ds, I i ds ρ' ∧ ds.length ≤ i ∧ Ext G H1 H1' H0' H' ∧ Sat ρ' (L2.wipe σ vs) H0' H' (fun a => G a ∨ a = D) ∧ H' D = some (.lst acc) ∧ DaAll K H0' acc ds) ?_ (fun i H' _ ⟨ρ', H0', acc, ds, _, _, e, S', _⟩ => e.s0.trans S'.same) ?_ ?_
  · exact ⟨_, H1, [], [], i0, Nat.le_refl _, ⟨Same.refl _, fun a ha => upd_ne fun e => hDG (e ▸ ha)⟩, S1', upd_same, .nil⟩
  · rintro i x H' H'' hi ⟨ρ', H0', acc, ds, hI, hl, e2, S2, hacc, hds⟩ y
    obtain ⟨H0'', e3, S3, hx⟩ := y ρ' _ H0' _ e2.s0 S2
    obtain ⟨l, hlv, hg⟩ := step i ds ρ' hi hI
    refine hg _ H0'' H'' _ x (fun _ => False) _ (S3.frame fun a ha => ha.resolve_right id) ⟨hx, fun _ h => h⟩ (fun _ h => h.elim) fun ρ2 σ2 H2 H2' q2 _ w2 e4 S4 => ?_
    have hw : L2.wipe σ2 vs = L2.wipe σ vs := by
      rw [w2 vs hlv]
      exact wipe_wipe σ vs
    refine ⟨hw, ?_⟩
    refine q2 σ2 H2 H2' _ _ S4 fun b ρ3 H3 H3' ⟨q3, q4⟩ e5 S5 => ?_
    have e35 := (e3.trans e4).trans e5
    have hacc3 : H3' D = some (.lst acc) := by rw [e35.fr D (.inr rfl)]; exact hacc
    cases b with
    | false =>
      refine iteF ⟨_, H3, acc, ds, q4 rfl, Nat.le_succ_of_le hl, e2.trans (e35.weak fun _ => .inl), ?_, hacc3, DaAll.mono e35.s0 _ _ hds⟩
      have := S5.wipe vs
      rwa [hw] at this
    | true =>
      refine iteT (q3 rfl σ2 H3 H3' _ _ S5 fun r ρ4 v f H4 H4' ⟨d, ρ5, ha, q⟩ p4 => ?_)
      obtain ⟨H5, s5, hda, S6⟩ := ha.go p4.sat p4.rt p4.dis
      have hacc4 : H4' D = some (.lst acc) := by rw [p4.ext.fr D (.inr rfl)]; exact hacc3
      have hlen : acc.length < sizeLine := by rw [hds.len]; omega
      refine ⟨acc, hacc4, hlen, _, H5, acc ++ [v], ds ++ [d], q, ?_, ?_, ?_, upd_same, ?_⟩
      · rw [List.length_append]
        simp
        omega
      · refine ⟨((e2.s0.trans e35.s0).trans p4.ext.s0).trans s5, fun a ha => ?_⟩
        rw [upd_ne (show a ≠ D from fun e => hDG (e ▸ ha)), p4.ext.fr a (.inl ha), e35.fr a (.inl ha), e2.fr a ha]
      · have S7 := S6.wipe vs
        rw [hw] at S7
        refine S7.mut (fun a ha => upd_ne ha) fun a ha => ?_
        rw [ha, upd_same]
        exact Option.some_ne_none _
      · exact DaAll.append (DaAll.mono ((e35.s0.trans p4.ext.s0).trans s5) _ _ hds) (.cons hda .nil)
  · rintro H' ⟨ρ', H0', acc, ds, hI, hl, e2, S2, hacc, hds⟩
    exact hk ds ρ' D H0' H' acc (fin ds ρ' hI) (e1.trans e2) S2.unwipe hacc hds hDG
end
end ML

namespace ML
open PySem PySem.Spec PyProof.Rows L2 KS GL LB
section
variable {K : PySem.W.Frag} {ρ : MS} {Q : Rt → MS → Prop} {Qb : Bool → MS → Prop} {ta tb te tc : TE} {t u : TT} {np : Nat} {Φ : Out} {ts us : TS}
/-- a comprehension's turns -/
def lcH (K : PySem.W.Frag) (wi : TI) (g : TG) (t : TT) (te : TE) (vs : List Nat) (ρ : MS) (C : List PyData → MS → Prop) : Prop :=
  wk K wi ρ fun n item ρ1 => n ≤ sizeLine ∧ ∃ I : Nat → List PyData → MS → Prop, I 0 [] (wipeM ρ1 vs) ∧ (∀ i ds ρ', i < n → I i ds ρ' → ∃ l, (∀ j ∈ l, j ∈ vs) ∧ tg l g (.val (dat K (item i))) ρ' fun ρ2 => evT t ρ2 fun b ρ3 => (b = true → ev te ρ3 fun r ρ4 => ∃ d ρ5, asD K ρ4 r d ρ5 ∧ I (i + 1) (ds ++ [d]) (wipeM ρ5 vs)) ∧ (b = false → I (i + 1) ds (wipeM ρ3 vs))) ∧ ∀ ds ρ', I n ds ρ' → C ds ρ'
/-- a comprehension's list stands -/
theorem ev_lc {wi : TI} {g : TG} {vs : List Nat} (h : lcH K wi g t te vs ρ fun ds ρ' => Q (.val (dat K (.list ds))) ρ') : ev (tLc wi g t te vs) ρ Q := by
  intro σ H0 H G k S hk
  refine lc_gen S _ h fun ds ρ' D H0' H' acc q e S' hD hds hG => ?_
  have h0 := (S'.fr D (.inr rfl)).2
  have S0 := same_upd (o := .lst acc) h0
  have S2 := S'.freeze (G' := fun a => a = D) hD hG rfl
  exact hk _ ρ' _ (fun _ => False) _ _ q ⟨⟨e.s0.trans S0, e.fr⟩, ⟨.lst upd_same (DaAll.mono S0 _ _ hds), fun _ h => h⟩, fun _ h => h.elim, S2.frame fun a ha => ha.resolve_right id⟩
/-- .. is one's own -/
theorem ev_lcO {wi : TI} {g : TG} {vs : List Nat} (h : lcH K wi g t te vs ρ fun ds ρ' => Q (.val (lo K ds)) ρ') : ev (tLc wi g t te vs) ρ Q := by
  intro σ H0 H G k S hk
  refine lc_gen S _ h fun ds ρ' D H0' H' acc q e S' hD hds hG => ?_
  exact hk _ ρ' _ (fun a => a = D) _ _ q ⟨e, ⟨D, acc, rfl, fun _ => Iff.rfl, (S'.fr D (.inr rfl)).2, hD, hds⟩, fun a e => e ▸ hG, S'⟩
/-- by what has been taken of a list -/
theorem by_pre2 {α : Type} {xs : List α} {f : α → PyData} {P : Nat → PyData → List PyData → (List PyData → MS → Prop) → MS → Prop} {C : List PyData → MS → Prop} (I : List α → List PyData → MS → Prop) {ρ1 : MS} (h0 : I [] [] ρ1) (hs : ∀ pre x post ds ρ', xs = pre ++ x :: post → I pre ds ρ' → P pre.length (f x) ds (I (pre ++ [x])) ρ') (hd : ∀ ds ρ', I xs ds ρ' → C ds ρ') :
    ∃ I' : Nat → List PyData → MS → Prop, I' 0 [] ρ1 ∧ (∀ i ds ρ', i < (xs.map f).length → I' i ds ρ' → P i ((xs.map f).getD i .none) ds (I' (i + 1)) ρ') ∧ ∀ ds ρ', I' (xs.map f).length ds ρ' → C ds ρ' := by
  refine ⟨fun i => I (xs.take i), by simpa using h0, fun i ds ρ' hi hI => ?_, fun ds ρ' hI => ?_⟩
  · rw [List.length_map] at hi
    have e1 : xs = xs.take i ++ xs[i] :: xs.drop (i + 1) := by rw [List.getElem_cons_drop, List.take_append_drop]
    have e2 : (xs.map f).getD i .none = f xs[i] := by rw [List.getD_eq_getElem?_getD, List.getElem?_map, List.getElem?_eq_getElem hi]; rfl
    have e3 : xs.take (i + 1) = xs.take i ++ [xs[i]] := by rw [List.take_succ, List.getElem?_eq_getElem hi]; rfl
    have e4 : (xs.take i).length = i := by rw [List.length_take]; omega
    have := hs (xs.take i) xs[i] (xs.drop (i + 1)) ds ρ' e1 hI
    rw [e4] at this
    rw [e2]
    simp only [e3]
    exact this
  · rw [List.length_map, List.take_length] at hI
    exact hd ds ρ' hI
/-- a comprehension whose turns leave all as it is: filter and map -/
theorem lcH_pure {α : Type} {wi : TI} {g : TG} {vs : List Nat} {C : List PyData → MS → Prop} (xs : List α) (f : α → PyData) (p : α → Bool) (h : α → PyData) (ρ1 : MS) (hl : xs.length ≤ sizeLine)
    (hw : wk K wi ρ fun n item ρ2 => n = (xs.map f).length ∧ (∀ i, i < n → item i = (xs.map f).getD i .none) ∧ wipeM ρ2 vs = ρ1)
    (hs : ∀ x ∈ xs, ∃ l, (∀ j ∈ l, j ∈ vs) ∧ tg l g (.val (dat K (f x))) ρ1 fun ρ2 => evT t ρ2 fun b ρ3 => b = p x ∧ (p x = false → wipeM ρ3 vs = ρ1) ∧ (p x = true → ev te ρ3 fun r ρ4 => r = .val (dat K (h x)) ∧ wipeM ρ4 vs = ρ1))
    (hC : C ((xs.filter p).map h) ρ1) : lcH K wi g t te vs ρ C := by
  intro σ H0 H G k S hk
  refine hw σ H0 H G k S fun n item ρ' J H0' H' ⟨en, ei, er⟩ e S' w => hk n item ρ' J H0' H' ?_ e S' w
  subst en
  refine ⟨by rw [List.length_map]; exact hl, ?_⟩
  obtain ⟨I', i0, st, fin⟩ := by_pre2 (xs := xs) (f := f) (C := C) (P := fun i d ds N ρ' => ∃ l, (∀ j ∈ l, j ∈ vs) ∧ tg l g (.val (dat K d)) ρ' fun ρ2 => evT t ρ2 fun b ρ3 => (b = true → ev te ρ3 fun r ρ4 => ∃ d ρ5, asD K ρ4 r d ρ5 ∧ N (ds ++ [d]) (wipeM ρ5 vs)) ∧ (b = false → N ds (wipeM ρ3 vs)))
    (fun pre ds ρ' => ds = (pre.filter p).map h ∧ ρ' = ρ1) (ρ1 := wipeM ρ' vs) ⟨rfl, er⟩ (fun pre x post ds ρ2 e ⟨hds, hρ⟩ => by
      subst hds hρ
      obtain ⟨l, hl, ht⟩ := hs x (by rw [e]; simp)
      refine ⟨l, hl, fun σ H0 H G v f k S hr hd hk => ht σ H0 H G v f k S hr hd fun ρ3 σ' H0' H' q => hk ρ3 σ' H0' H' ?_⟩
      refine evT_mono q fun b ρ4 ⟨hb, q1, q2⟩ => ⟨fun h1 => ?_, fun h1 => ?_⟩
      · rw [h1] at hb
        refine ev_mono (q2 hb.symm) fun r ρ5 ⟨er, e5⟩ => ⟨h x, ρ5, er ▸ .val, ?_, e5⟩
        rw [List.filter_append, List.map_append]
        simp [List.filter_cons, ← hb]
      · rw [h1] at hb
        refine ⟨?_, q1 hb.symm⟩
        rw [List.filter_append, List.map_append]
        simp [List.filter_cons, ← hb]) (fun ds ρ2 ⟨hds, hρ⟩ => by rw [hds, hρ]; exact hC)
  refine ⟨I', i0, fun i ds ρ2 hi hI => ?_, fin⟩
  rw [ei i hi]
  exact st i ds ρ2 hi hI
/-! ### defs -/
abbrev MSp := List Res → (Res → List Res → Prop) → Prop
/-- a def's promise: of what is known of its arguments (the first np ones are handed back, as they are then) -/
def spOf (np : Nat) (M : MSp) : Sp := fun vs H Q _ => ∃ (Rs : List Res) (H0 : Hp) (G : FP) (q : Res → List Res → Prop), Sat (Rs.map some) (vs.map some) H0 H G ∧ M Rs q ∧
  ∀ R Rs', q R Rs' → ∀ v f H0' H', Ext G H0 H H0' H' → R.holds H0' H' v f → (∀ a, f a → ¬ G a) → Sat (Rs'.map some) ((vs.take np).map some) H0' H' (fun a => G a ∨ f a) → Q v H'
/-- what is given back -/
def retR (np : Nat) (r : Rt) (ρ : MS) (R : Res) (Rs' : List Res) : Prop := ∀ (σ : L2.St) (H0 H : Hp) (G : FP) (v : V) (f : FP), Sat ρ σ H0 H (fun a => G a ∨ f a) → RtH r σ H0 H v f → (∀ a, f a → ¬ G a) →
  ∃ H0' f', Same H0 H0' ∧ R.holds H0' H v f' ∧ (∀ a, f' a → ¬ G a) ∧ Sat (Rs'.map some) (σ.take np) H0' H fun a => G a ∨ f' a
theorem Sat.takeN {σ : L2.St} {H0 H : Hp} {G : FP} (S : Sat ρ σ H0 H G) (n : Nat) : Sat (ρ.take n) (σ.take n) H0 H G := by
  obtain ⟨F, h1, h2, h3, h4⟩ := S.sl
  have lt : ∀ {i : Nat} {R : Res}, (ρ.take n)[i]? = some (some R) → i < n ∧ ρ[i]? = some (some R) := fun {i R} h => by
    rw [List.getElem?_take] at h
    split at h
    · exact ⟨‹_›, h⟩
    · cases h
  refine ⟨S.same, by rw [List.length_take, List.length_take, S.len], S.fr, fun i => if i < n then F i else fun _ => False, fun i R hR => ?_, fun i j a ha hb => ?_, fun i a ha => ?_, fun i a ha => ?_⟩
  · obtain ⟨hi, hR⟩ := lt hR
    obtain ⟨v, e, r⟩ := h1 i R hR
    refine ⟨v, by rw [List.getElem?_take, if_pos hi]; exact e, ?_⟩
    simp only [hi, if_true]
    exact r
  · by_cases hi : i < n
    · by_cases hj : j < n
      · simp only [hi, hj, if_true] at ha hb
        exact h2 i j a ha hb
      · simp only [hj, if_false] at hb
    · simp only [hi, if_false] at ha
  · by_cases hi : i < n
    · simp only [hi, if_true] at ha
      exact h3 i a ha
    · simp only [hi, if_false] at ha
  · by_cases hi : i < n
    · simp only [hi, if_true] at ha
      obtain ⟨R, hR⟩ := h4 i a ha
      exact ⟨R, by rw [List.getElem?_take, if_pos hi]; exact hR⟩
    · simp only [hi, if_false] at ha
theorem ret_val {R : Res} {Rs' : List Res} (h : ρ.take np = Rs'.map some) : retR np (.val R) ρ R Rs' := fun σ H0 H G v f S hr hd => ⟨H0, f, Same.refl _, hr, hd, by rw [← h]; exact S.takeN np⟩
theorem take_set_none {α : Type} {l : List α} {i n : Nat} {x : α} (h : n ≤ i) : (l.set i x).take n = l.take n := take_set h
theorem ret_at {i : Nat} {R : Res} {Rs' : List Res} (e : ρ[i]? = some (some R)) (hi : np ≤ i) (h : ρ.take np = Rs'.map some) : retR np (.at i) ρ R Rs' := fun σ H0 H G v f S hr hd => by
  have S1 : Sat ρ σ H0 H G := S.frame fun _ => .inl
  obtain ⟨w, f', e1, r, d', S2⟩ := S1.take e
  obtain rfl : w = v := Option.some.inj (Option.some.inj (e1.symm.trans hr.1))
  refine ⟨H0, f', Same.refl _, r, d', ?_⟩
  have := S2.takeN np
  rwa [take_set hi, h] at this
theorem ret_dat {r : Rt} {d : PyData} {ρ' : MS} {Rs' : List Res} (a : asD K ρ r d ρ') (h : ρ'.take np = Rs'.map some) : retR np r ρ (dat K d) Rs' := fun σ H0 H G v f S hr hd => by
  obtain ⟨H0', s0, hda, S2⟩ := a.go S hr hd
  exact ⟨H0', fun _ => False, s0, ⟨hda, fun _ h => h⟩, fun _ h => h.elim, by rw [← h]; exact (S2.takeN np).frame fun a ha => ha.resolve_right id⟩
/-- the ends of a def's body -/
def outF (np : Nat) (K : PySem.W.Frag) (k : Res → List Res → Prop) : Out := ⟨fun ρ' => ∃ Rs', retR np (.val (dat K .none)) ρ' (dat K .none) Rs' ∧ k (dat K .none) Rs', fun r ρ' => ∃ R Rs', retR np r ρ' R Rs' ∧ k R Rs', fun _ => False, fun _ => False⟩
theorem fn_ml {P : Program} {w : World} {mg : Str → Option Value} {base : Heap} {k : Nat} {f : Addr} {fd : FuncData} {ps N : List Str} {x qual : Str} {st : Stmt} {M : MSp} (F : Fun K x qual st f fd) (S : FnScope N ps (defScope st)) (hl : ∀ Rs q, M Rs q → Rs.length = ps.length) (hnp : np ≤ ps.length)
    (body : ∀ (cdv : Value) (A : Around) (outer : List Env) (s : Shared) (H : Hp) (E : XK), RoomG k (A.deeper (envOfC qual (defScope st) s.heap.objs.size f cdv)) →
      ∃ t, PSs (cxOf CX0 P w K mg base N qual (defScope st) f cdv A outer s H E).nox (defBody st) t ∧ ∀ Rs q, M Rs q → ex np t (Rs.map some ++ List.replicate (N.length - Rs.length) none) (outF np K q)) : FnG P w K mg base CX0 (k + 1) f fd ps (spOf np M) := by
  have len : ∀ vs H Q E, spOf np M vs H Q E → vs.length = ps.length := fun vs H Q E ⟨Rs, H0, G, q, S, m, _⟩ => by
    have := S.len
    rw [List.length_map, List.length_map] at this
    rw [this, hl _ _ m]
  refine okG F S len fun cdv A outer s H vs Q E hr h => ?_
  obtain ⟨t, ht, hx⟩ := body cdv A outer s H E hr
  refine ⟨t, ht, ?_⟩
  have hv := len _ _ _ _ h
  obtain ⟨Rs, H0, G, q0, S0, m, hq⟩ := h
  have hlen : vs.length = Rs.length := by
    have := S0.len
    rwa [List.length_map, List.length_map] at this
  have S1 : Sat (Rs.map some ++ List.replicate (N.length - Rs.length) none) (L2.start N vs) H0 H G := by
    obtain ⟨F, h1, h2, h3, h4⟩ := S0.sl
    have lt : ∀ {i : Nat} {R : Res}, (Rs.map some ++ List.replicate (N.length - Rs.length) none)[i]? = some (some R) → (Rs.map some)[i]? = some (some R) := fun {i R} h => by
      by_cases hi : i < (Rs.map some).length
      · rwa [List.getElem?_append_left hi] at h
      · rw [List.getElem?_append_right (by omega), List.getElem?_replicate] at h
        split at h <;> cases h
    unfold L2.start
    refine ⟨S0.same, by simp [hlen], S0.fr, F, fun i R hR => ?_, h2, h3, fun i a ha => ?_⟩
    · obtain ⟨v, e, r⟩ := h1 i R (lt hR)
      have hi : i < (vs.map some).length := by
        rcases Nat.lt_or_ge i (vs.map some).length with h | h
        · exact h
        · rw [List.getElem?_eq_none h] at e; cases e
      exact ⟨v, by rw [List.getElem?_append_left hi]; exact e, r⟩
    · obtain ⟨R, e⟩ := h4 i a ha
      have hi : i < (Rs.map some).length := by
        rcases Nat.lt_or_ge i (Rs.map some).length with h | h
        · exact h
        · rw [List.getElem?_eq_none h] at e; cases e
      exact ⟨R, by rw [List.getElem?_append_left hi]; exact e⟩
  have tk : (L2.start N vs).take np = (vs.take np).map some := by
    unfold L2.start
    rw [List.take_append_of_le_length (by rw [List.length_map]; omega), List.map_take]
  refine hx Rs q0 m (L2.start N vs) H0 H G _ S1 ?_ ?_ (fun _ _ _ _ z => z.elim) fun _ _ _ _ z => z.elim
  · rintro ρ' σ' H0' H' ⟨Rs', hret, q⟩ ht e S'
    obtain ⟨H0'', f', s0, hR, hd, S2⟩ := hret σ' H0' H' G .non (fun _ => False) (S'.frame fun a ha => ha.resolve_right id) ⟨.non, fun _ h => h⟩ fun _ h => h.elim
    refine hq _ _ q _ f' H0'' H' ⟨e.s0.trans s0, e.fr⟩ hR hd ?_
    rwa [ht, tk] at S2
  · rintro r ρ' σ' v f H0' H' ⟨R, Rs', hret, q⟩ ht p
    obtain ⟨H0'', f', s0, hR, hd, S2⟩ := hret σ' H0' H' G v f p.sat p.rt p.dis
    refine hq _ _ q _ f' H0'' H' ⟨p.ext.s0.trans s0, p.ext.fr⟩ hR hd ?_
    rwa [ht, tk] at S2
/-! ### calls -/
/-- all that the slots own -/
def owned (F : Nat → FP) : FP := fun a => ∃ i, F i a
theorem rts_pure {σ : L2.St} {H0 H : Hp} : ∀ {Ps : List Pd} {vs : List V} {f : FP}, RtsH (Ps.map fun P => .val (pu P)) σ H0 H vs f → vs.length = Ps.length ∧ ∀ (i : Nat) (P : Pd), Ps[i]? = some P → ∃ v, vs[i]? = some v ∧ P.p H0 v
  | [], vs, f, h => by
    obtain rfl : vs = [] := h.1
    exact ⟨rfl, fun i P e => by simp at e⟩
  | P :: Ps, vs, f, h => by
    obtain ⟨v, vs', f1, f2, rfl, r1, r2, _⟩ := h
    obtain ⟨l, g⟩ := rts_pure r2
    refine ⟨by rw [List.length_cons, List.length_cons, l], fun i P' e => ?_⟩
    cases i with
    | zero =>
      cases e
      exact ⟨v, rfl, r1.1⟩
    | succ i => exact g i P' e
def call0 (M : MSp) (rs : List Rt) (ρ : MS) (Q : Rt → MS → Prop) : Prop := ∃ Ps : List Pd, rs = Ps.map (fun P => .val (pu P)) ∧ M (Ps.map pu) fun R _ => Q (.val R) ρ
def call1 (M : MSp) (rs : List Rt) (ρ : MS) (Q : Rt → MS → Prop) : Prop := ∃ (i : Nat) (R0 : Res) (Ps : List Pd), rs = .at i :: Ps.map (fun P => .val (pu P)) ∧ ρ[i]? = some (some R0) ∧ M (R0 :: Ps.map pu) fun R Rs' => ∃ R0', Rs' = [R0'] ∧ Q (.val R) (ρ.set i (some R0'))
/-- a call whose arguments all stand -/
theorem ev_call {M : MSp} {ta : TA} (h : evA ta ρ fun rs ρ1 => call0 M rs ρ1 Q) : ev (tCall (spOf 0 M) [] E0 ta) ρ Q := by
  intro σ H0 H G k S hk
  refine h σ H0 H G _ S fun rs ρ1 vs f H1 H1' ⟨Ps, ers, m⟩ p => ?_
  subst ers
  rw [List.append_nil]
  have S1 := p.sat.frame (G' := G) fun _ => .inl
  obtain ⟨F, h1, h2, h3, h4⟩ := S1.sl
  have lvF : ∀ i a, F i a → H1' a ≠ none ∧ H1 a = none := fun i a ha => by
    obtain ⟨R, hR⟩ := h4 i a ha
    obtain ⟨v, _, r⟩ := h1 i R hR
    exact R.live r ha
  obtain ⟨la, ga⟩ := rts_pure p.rt
  refine ⟨Ps.map pu, H1, fun a => G a ∨ owned F a, _, ⟨S1.same, by simp [la], fun a ha => ha.elim (S1.fr a) fun ⟨i, hi⟩ => lvF i a hi, fun _ _ => False, fun i R hR => ?_, fun _ _ _ h => h.elim, fun _ _ h => h.elim, fun _ _ h => h.elim⟩, m, fun R Rs' q v f H2 H2' e r hd S2 => ?_⟩
  · rw [List.map_map, List.getElem?_map] at hR
    cases e : Ps[i]? with
    | none => rw [e] at hR; cases hR
    | some P =>
      rw [e] at hR
      obtain rfl : pu P = R := Option.some.inj (Option.some.inj hR)
      obtain ⟨v, ev, hv⟩ := ga i P e
      exact ⟨v, by rw [List.getElem?_map, ev]; rfl, hv, fun _ h => h⟩
  · refine hk (.val R) ρ1 v f H2 H2' q ⟨⟨p.ext.s0.trans e.s0, fun a ha => (e.fr a (.inl ha)).trans (p.ext.fr a ha)⟩, r, fun a ha hg => hd a ha (.inl hg), S2.same, S1.len, fun a ha => ha.elim (fun hg => S2.fr a (.inl (.inl hg))) fun hf => S2.fr a (.inr hf), F, fun i R' hR => ?_, h2, fun i a ha hg => hg.elim (h3 i a ha) fun hf => hd a hf (.inr ⟨i, ha⟩), h4⟩
    obtain ⟨w, ew, rw_⟩ := h1 i R' hR
    exact ⟨w, ew, R'.loc rw_ e.s0 fun a ha => ⟨e.fr a (.inr ⟨i, ha⟩), (S2.fr a (.inl (.inr ⟨i, ha⟩))).2⟩⟩
/-- a call whose first argument is a thing of one's own, handed back changed -/
theorem ev_call1 {M : MSp} {ta : TA} (h : evA ta ρ fun rs ρ1 => call1 M rs ρ1 Q) : ev (tCall (spOf 1 M) [] E0 ta) ρ Q := by
  intro σ H0 H G k S hk
  refine h σ H0 H G _ S fun rs ρ1 vs f H1 H1' ⟨i0, R0, Ps, ers, e0, m⟩ p => ?_
  subst ers
  rw [List.append_nil]
  obtain ⟨v0, vs', f1, f2, rfl, r0, rr, hu, _⟩ := p.rt
  have S1 := p.sat.frame (G' := G) fun _ => .inl
  obtain ⟨w0, fo, ew, ro, dno, St⟩ := S1.take e0
  obtain rfl : w0 = v0 := Option.some.inj (Option.some.inj (ew.symm.trans r0.1))
  have hi0 : i0 < ρ1.length := by
    rcases Nat.lt_or_ge i0 ρ1.length with z | z
    · exact z
    · rw [List.getElem?_eq_none z] at e0
      cases e0
  obtain ⟨F, h1, h2, h3, h4⟩ := St.sl
  have lvF : ∀ i a, F i a → H1' a ≠ none ∧ H1 a = none := fun i a ha => by
    obtain ⟨R, hR⟩ := h4 i a ha
    obtain ⟨v, _, r⟩ := h1 i R hR
    exact R.live r ha
  obtain ⟨la, ga⟩ := rts_pure rr
  refine ⟨R0 :: Ps.map pu, H1, fun a => G a ∨ owned F a, _, ⟨S1.same, by simp [la], fun a ha => ha.elim (S1.fr a) fun ⟨i, hi⟩ => lvF i a hi, fun j => if j = 0 then fo else fun _ => False, fun i R hR => ?_, fun i j a ha hb => ?_, fun i a ha hg => ?_, fun i a ha => ?_⟩, m, fun R Rs' q v f H2 H2' e r hd S2 => ?_⟩
  · cases i with
    | zero =>
      obtain rfl : R0 = R := Option.some.inj (Option.some.inj hR)
      exact ⟨w0, rfl, ro⟩
    | succ i =>
      rw [List.map_cons, List.getElem?_cons_succ, List.map_map, List.getElem?_map] at hR
      cases e : Ps[i]? with
      | none => rw [e] at hR; cases hR
      | some P =>
        rw [e] at hR
        obtain rfl : pu P = R := Option.some.inj (Option.some.inj hR)
        obtain ⟨v, ev, hv⟩ := ga i P e
        exact ⟨v, by rw [List.map_cons, List.getElem?_cons_succ, List.getElem?_map, ev]; rfl, hv, fun _ h => h⟩
  · by_cases hi : i = 0 <;> by_cases hj : j = 0
    · rw [hi, hj]
    · simp only [hj, if_false] at hb
    · simp only [hi, if_false] at ha
    · simp only [hi, if_false] at ha
  · by_cases hi : i = 0
    · simp only [hi, if_true] at ha
      rcases hg with hg | ⟨j, hj⟩
      · exact dno a ha hg
      · exact h3 j a hj (.inr ha)
    · simp only [hi, if_false] at ha
  · by_cases hi : i = 0
    · subst hi
      exact ⟨R0, rfl⟩
    · simp only [hi, if_false] at ha
  · obtain ⟨R0', eR, q⟩ := q
    subst eR
    -- the thing as it is now
    obtain ⟨v1, fn, ev1, rn, dnn, Sn⟩ := S2.take (i := 0) (R := R0') rfl
    obtain rfl : w0 = v1 := Option.some.inj (Option.some.inj ev1)
    refine hk (.val R) _ v f H2 H2' q ⟨⟨p.ext.s0.trans e.s0, fun a ha => (e.fr a (.inl ha)).trans (p.ext.fr a ha)⟩, r, fun a ha hg => hd a ha (.inl hg), ?_⟩
    have Sb : Sat (ρ1.set i0 none) σ H2 H2' fun a => (G a ∨ f a) ∨ fn a := by
      refine ⟨S2.same, by rw [List.length_set]; exact S1.len, fun a ha => ?_, F, fun i R' hR => ?_, h2, fun i a ha hg => ?_, h4⟩
      · rcases ha with (hg | hf) | hn
        · exact S2.fr a (.inl (.inl hg))
        · exact S2.fr a (.inr hf)
        · exact R0'.live rn hn
      · obtain ⟨w, ew, rw_⟩ := h1 i R' hR
        exact ⟨w, ew, R'.loc rw_ e.s0 fun a ha => ⟨e.fr a (.inr ⟨i, ha⟩), (S2.fr a (.inl (.inr ⟨i, ha⟩))).2⟩⟩
      · rcases hg with (hg | hf) | hn
        · exact h3 i a ha (.inl hg)
        · exact hd a hf (.inr ⟨i, ha⟩)
        · exact dnn a hn (.inl (.inr ⟨i, ha⟩))
    have := Sb.back (R := R0') ew rn fun a ha hg => dnn a ha (hg.elim (fun h => .inl (.inl h)) .inr)
    exact this
end
end ML

namespace ML
open PySem PySem.Spec PyProof.Rows L2 KS GL LB
/-! ### the readings by names -/
def rLenQ (K : PySem.W.Frag) : List V → Hp → VK → Prop := fun xs H Q => ∃ p ys, xs = [V.ref p] ∧ (SqL K H p ys ∨ SqT K H p ys) ∧ Q (.int ys.length) H
def rListQ (K : PySem.W.Frag) : List V → Hp → VK → Prop := fun xs H Q => ∃ p ys, xs = [V.ref p] ∧ (SqL K H p ys ∨ SqT K H p ys) ∧ ∀ l, H l = none → Q (.ref l) (upd H l (.lst ys))
def rTupQ (K : PySem.W.Frag) : List V → Hp → VK → Prop := fun xs H Q => ∃ p ys, xs = [V.ref p] ∧ ((SqL K H p ys ∧ ∀ l, H l = none → Q (.ref l) (upd H l (.tup ys))) ∨ (SqT K H p ys ∧ Q (.ref p) H))
theorem call_lenQ {X : Cx} : CallR X (.builtin "len") (rLenQ X.K) := call_len_seq
theorem call_listQ {X : Cx} : CallR X (.type "list") (rListQ X.K) := call_list_of
theorem call_tupQ {X : Cx} : CallR X (.type "tuple") (rTupQ X.K) := call_tuple_of
section
variable {K : PySem.W.Frag} {ρ : MS} {Q : Rt → MS → Prop} {Qb : Bool → MS → Prop} {ta tb te tc : TE} {t u : TT} {np : Nat} {Φ : Out} {ts us : TS}
/-! ### built-ins -/
theorem ev_cb1 {r : List V → Hp → VK → Prop} (h : ev ta ρ fun r1 ρ1 => unR (fun v H k => r [v] H k) r1 ρ1 Q) : ev (tCB r (tCons ta tNil)) ρ Q := by
  intro σ H0 H G k S hk
  refine h σ H0 H G _ S fun r1 ρ1 v1 f1 H1 H1' h1 p1 => ?_
  exact h1 σ H1 H1' G v1 f1 _ p1.sat p1.rt p1.dis fun r ρ' v f H3 H3' h3 p3 => hk r ρ' v f H3 H3' h3 (post_ext p1.ext p3)
theorem ev_cb2 {r : List V → Hp → VK → Prop} (h : ev ta ρ fun r1 ρ1 => ev tb ρ1 fun r2 ρ2 => opR (fun v w H k => r [v, w] H k) r1 r2 ρ2 Q) : ev (tCB r (tCons ta (tCons tb tNil))) ρ Q := ev_op (r := fun v w H k => r [v, w] H k) h
/-- reads as a list, or as a tuple -/
inductive rdS (K : PySem.W.Frag) (ρ : MS) (r : Rt) (ds : List PyData) : Prop
  | l : rd K ρ r (.list ds) → rdS K ρ r ds
  | t : rd K ρ r (.tuple ds) → rdS K ρ r ds
theorem rdS.seq {r : Rt} {ds : List PyData} {σ : L2.St} {H0 H : Hp} {G : FP} {v : V} {f : FP} (h : rdS K ρ r ds) (S : Sat ρ σ H0 H G) (hr : RtH r σ H0 H v f) : ∃ a xs, v = .ref a ∧ (SqL K H a xs ∨ SqT K H a xs) ∧ DaAll K H0 xs ds := by
  rcases h with h | h
  · obtain ⟨a, xs, e, h1, h2⟩ := h.list S hr
    exact ⟨a, xs, e, .inl (.inl (.inl h1)), h2⟩
  · obtain ⟨a, xs, e, h1, h2⟩ := h.tup S hr
    exact ⟨a, xs, e, .inr (sameT S.same h1), h2⟩
theorem un_len {r1 : Rt} {ds : List PyData} (h : rdS K ρ r1 ds) (q : Q (.val (dat K (.int ds.length))) ρ) : unR (fun v H k => rLenQ K [v] H k) r1 ρ Q := by
  intro σ H0 H G v1 f1 k S e1 _ hk
  obtain ⟨a, xs, rfl, h1, h2⟩ := h.seq S e1
  refine ⟨a, xs, rfl, h1, ?_⟩
  rw [h2.len]
  exact hk _ _ _ _ _ _ q (post_sc S (fun _ => .inl) (.int _))
theorem un_lenS {r1 : Rt} {z : Str} (h : rd K ρ r1 (.str z)) (hz : z.length ≤ sizeLine) (q : Q (.val (dat K (.int z.length))) ρ) : unR (fun v H k => ∃ z, [v] = [V.str z] ∧ z.length ≤ sizeLine ∧ k (.int z.length) H) r1 ρ Q :=
  un_sc h (fun H v1 k e1 hk => by
    cases e1
    exact ⟨z, rfl, hz, hk _ (.int _)⟩) q
/-- list(x): one's own -/
theorem un_list {r1 : Rt} {ds : List PyData} (h : rdS K ρ r1 ds) (q : Q (.val (lo K ds)) ρ) : unR (fun v H k => rListQ K [v] H k) r1 ρ Q := by
  intro σ H0 H G v1 f1 k S e1 _ hk
  obtain ⟨a, xs, rfl, h1, h2⟩ := h.seq S e1
  exact ⟨a, xs, rfl, h1, fun l hl => hk _ _ _ _ _ _ q (post_own (S.frame fun _ => .inl) hl h2)⟩
/-- .. that stands -/
theorem un_listD {r1 : Rt} {ds : List PyData} (h : rdS K ρ r1 ds) (q : Q (.val (dat K (.list ds))) ρ) : unR (fun v H k => rListQ K [v] H k) r1 ρ Q := by
  intro σ H0 H G v1 f1 k S e1 _ hk
  obtain ⟨a, xs, rfl, h1, h2⟩ := h.seq S e1
  have S1 := S.frame (G' := G) fun _ => .inl
  exact ⟨a, xs, rfl, h1, fun l hl => hk _ _ _ _ _ _ q (post_new S1 hl (.lst upd_same (DaAll.mono (same_upd (S1.same.free hl)) _ _ h2)))⟩
theorem un_tuple {r1 : Rt} {ds : List PyData} (h : rdS K ρ r1 ds) (q : Q (.val (dat K (.tuple ds))) ρ) : unR (fun v H k => rTupQ K [v] H k) r1 ρ Q := by
  intro σ H0 H G v1 f1 k S e1 _ hk
  have S1 := S.frame (G' := G) fun _ => .inl
  rcases h with h | h
  · obtain ⟨a, xs, rfl, h1, h2⟩ := h.list S e1
    exact ⟨a, xs, rfl, .inl ⟨.inl (.inl h1), fun l hl => hk _ _ _ _ _ _ q (post_new S1 hl (.tup (.inl (.inl upd_same)) (DaAll.mono (same_upd (S1.same.free hl)) _ _ h2)))⟩⟩
  · obtain ⟨a, xs, rfl, h1, h2⟩ := h.tup S e1
    exact ⟨a, xs, rfl, .inr ⟨sameT S.same h1, hk _ _ _ _ _ _ q (post_pure S1 (.tup h1 h2))⟩⟩
theorem un_sum {r1 : Rt} {ns : List Int} (h : rd K ρ r1 (.list (ns.map .int))) (q : Q (.val (dat K (.int ns.sum))) ρ) : unR (fun v H k => rSum K [v] H k) r1 ρ Q := by
  intro σ H0 H G v1 f1 k S e1 _ hk
  obtain ⟨a, xs, rfl, h1, h2⟩ := h.list S e1
  obtain rfl := h2.toInts
  exact ⟨a, ns, rfl, .inl (.inl h1), hk _ _ _ _ _ _ q (post_sc S (fun _ => .inl) (.int _))⟩
theorem un_all {r1 : Rt} {bs : List Bool} (h : rd K ρ r1 (.list (bs.map .bool))) (q : Q (.val (dat K (.bool (bs.all id)))) ρ) : unR (fun v H k => rAll K [v] H k) r1 ρ Q := by
  intro σ H0 H G v1 f1 k S e1 _ hk
  obtain ⟨a, xs, rfl, h1, h2⟩ := h.list S e1
  obtain rfl := h2.toBools
  exact ⟨a, bs, rfl, .inl (.inl h1), hk _ _ _ _ _ _ q (post_sc S (fun _ => .inl) (.bl _))⟩
theorem un_repr {r1 : Rt} {d : PyData} (h : rd K ρ r1 d) (hd : ∃ ds, d = .list ds ∨ d = .tuple ds) (h1 : d.showable = true) (h2 : d.depth ≤ 60) (h3 : d.shown.length ≤ sizeLine) (q : Q (.val (dat K (.str d.shown))) ρ) : unR (fun v H k => rRepr K [v] H k) r1 ρ Q :=
  un_sc h (fun H v1 k e1 hk => by
    have e2 := Da.dp _ _ e1
    obtain ⟨ds, rfl | rfl⟩ := hd <;> cases e1 <;> exact ⟨_, _, rfl, e2, h1, h2, h3, hk _ (.str _)⟩) q
theorem un_int {r1 : Rt} {n : Int} (h : rd K ρ r1 (.int n)) (q : Q (.val (dat K (.int n))) ρ) : unR (fun v H k => (∃ i, [v] = [V.int i] ∧ k (.int i) H) ∨ ∃ b, [v] = [V.bl b] ∧ k (.int (if b then 1 else 0)) H) r1 ρ Q :=
  un_sc h (fun H v1 k e1 hk => by
    cases e1
    exact .inl ⟨n, rfl, hk _ (.int _)⟩) q
theorem un_intB {r1 : Rt} {b : Bool} (h : rd K ρ r1 (.bool b)) (q : Q (.val (dat K (.int (if b then 1 else 0)))) ρ) : unR (fun v H k => (∃ i, [v] = [V.int i] ∧ k (.int i) H) ∨ ∃ b, [v] = [V.bl b] ∧ k (.int (if b then 1 else 0)) H) r1 ρ Q :=
  un_sc h (fun H v1 k e1 hk => by
    cases e1
    exact .inr ⟨b, rfl, hk _ (.int _)⟩) q
theorem op_max2 {r1 r2 : Rt} {i j : Int} (h1 : rd K ρ r1 (.int i)) (h2 : rd K ρ r2 (.int j)) (q : Q (.val (dat K (.int (if j > i then j else i)))) ρ) : opR (fun v w H k => ∃ i j, [v, w] = [V.int i, .int j] ∧ k (.int (if j > i then j else i)) H) r1 r2 ρ Q :=
  op_sc h1 h2 (fun H v1 v2 k e1 e2 hk => ⟨i, j, by rw [da_int e1, da_int e2], hk _ (.int _)⟩) q
theorem op_min2 {r1 r2 : Rt} {i j : Int} (h1 : rd K ρ r1 (.int i)) (h2 : rd K ρ r2 (.int j)) (q : Q (.val (dat K (.int (if j < i then j else i)))) ρ) : opR (fun v w H k => ∃ i j, [v, w] = [V.int i, .int j] ∧ k (.int (if j < i then j else i)) H) r1 r2 ρ Q :=
  op_sc h1 h2 (fun H v1 v2 k e1 e2 hk => ⟨i, j, by rw [da_int e1, da_int e2], hk _ (.int _)⟩) q
/-! ### sorted: data that are alike -/
def rSortedD (K : PySem.W.Frag) : List V → Hp → VK → Prop := fun vs H Q => ∃ (a : Addr) (zs : List (V × PyData)), vs = [V.ref a] ∧ SqL K H a (zs.map (·.1)) ∧ (∀ z ∈ zs, Dp K H z.1 z.2) ∧ W.AllAlike (zs.map (·.2)) ∧ W.Sortable (zs.map (·.2)) ∧ (∀ z ∈ zs, z.2.depth ≤ 60) ∧
  ∀ (zs' : List (V × PyData)) (p : Addr), zs'.Perm zs → zs'.Pairwise (fun q r => W.dataLt r.2 q.2 = false) → H p = none → Q (.ref p) (upd H p (.lst (zs'.map (·.1))))
theorem each_vals {α : Type} {f : α → V} : ∀ {zs : List α} {us : List Value}, Vals (zs.map f) us → W.EachIs (fun u z => RelV (f z) u) us zs
  | [], _, .nil => .nil
  | z :: zs, _, .cons h t => .cons h (each_vals t)
theorem vals_each {α : Type} {f : α → V} : ∀ {zs : List α} {us : List Value}, W.EachIs (fun u z => RelV (f z) u) us zs → Vals (zs.map f) us
  | [], _, .nil => .nil
  | z :: zs, _, .cons h t => .cons h (vals_each t)
theorem each_imp {α : Type} {R R' : Value → α → Prop} : ∀ {us : List Value} {zs : List α}, W.EachIs R us zs → (∀ u, ∀ z ∈ zs, R u z → R' u z) → W.EachIs R' us zs
  | _, _, .nil, _ => .nil
  | _, _, .cons h t, hr => .cons (hr _ _ List.mem_cons_self h) (each_imp t fun u z hz => hr u z (List.mem_cons_of_mem _ hz))
theorem cr_sortedD {X : Cx} (hu : X.A.units + 64 < cLine) : CallR X (.builtin "sorted") (rSortedD X.K) := by
  intro pins s σ H vs us Q I r h
  obtain ⟨a, zs, rfl, ha, hd, hal, hso, hdp, q⟩ := h
  rw [Vals.ref1 r]
  obtain ⟨its, rv, pl, hz⟩ := I.list ha
  rw [List.length_map] at hz
  have e0 := each_vals rv
  refine W.sorted_data (R := fun u (z : V × PyData) => RelV z.1 u) (enc := fun z : V × PyData => z.2) (bs := zs) pl.isList e0 (each_imp e0 fun u z hz hu => Dp.reads I z.2 z.1 u (hd z hz) hu) hal hso hz (fun b hb => ?_) fun out ho eo => ?_
  · have := hdp b hb
    show X.A.units + 2 + b.2.depth < cLine
    omega
  · obtain ⟨c, hc⟩ := sortedAll_at s.heap its (List.toArray out)
    have hn : H (s.heap.objs.size + 1) = none := I.hok.fresh (Nat.le_succ _)
    have hperm : (zs.mergeSort (W.dataLe false fun z : V × PyData => z.2)).Perm zs := List.mergeSort_perm _ _
    have hl : ((zs.mergeSort (W.dataLe false fun z : V × PyData => z.2)).map (·.1)).length ≤ sizeLine := by
      rw [List.length_map, hperm.length_eq]
      exact hz
    have ob : ObjOk X.prog X.w (upd H (s.heap.objs.size + 1) (.lst ((zs.mergeSort (W.dataLe false fun z : V × PyData => z.2)).map (·.1)))) (sortedAll s.heap its out.toArray) (s.heap.objs.size + 1) (.lst ((zs.mergeSort (W.dataLe false fun z : V × PyData => z.2)).map (·.1))) :=
      ⟨hl, out, c, vals_each eo, hc⟩
    refine ⟨.ref (s.heap.objs.size + 1), _, I.laid (t' := s.toks) (fun _ _ e => sortedAll_old e) (Nat.le_succ _) ob, rfl, q _ _ hperm ?_ hn⟩
    refine (W.sort_pairwise (dataLe_total fun z : V × PyData => z.2) zs).imp fun {p q} h => ?_
    have h' : (!W.dataLt q.2 p.2) = true := h
    simpa using h'
theorem da_zip {H : Hp} : ∀ {xs : List V} {ds : List PyData}, DaAll K H xs ds → (xs.zip ds).map (·.1) = xs ∧ (xs.zip ds).map (·.2) = ds ∧ ∀ z ∈ xs.zip ds, Da K H z.1 z.2
  | [], _, .nil => ⟨rfl, rfl, fun _ h => by cases h⟩
  | x :: xs, d :: ds, .cons h t => by
    obtain ⟨e1, e2, e3⟩ := da_zip t
    refine ⟨by rw [List.zip_cons_cons, List.map_cons, e1], by rw [List.zip_cons_cons, List.map_cons, e2], fun z hz => ?_⟩
    rcases List.mem_cons.mp hz with rfl | hz
    · exact h
    · exact e3 z hz
theorem da_unzip {H : Hp} : ∀ {zs : List (V × PyData)}, (∀ z ∈ zs, Da K H z.1 z.2) → DaAll K H (zs.map (·.1)) (zs.map (·.2))
  | [], _ => .nil
  | z :: zs, h => .cons (h z List.mem_cons_self) (da_unzip fun y hy => h y (List.mem_cons_of_mem _ hy))
theorem un_sorted {r1 : Rt} {ds : List PyData} (h : rd K ρ r1 (.list ds)) (h1 : W.AllAlike ds) (h2 : W.Sortable ds) (h3 : ∀ d ∈ ds, d.depth ≤ 60) (q : ∀ ds', ds'.Perm ds → ds'.Pairwise (fun a b => W.dataLt b a = false) → Q (.val (lo K ds')) ρ) : unR (fun v H k => rSortedD K [v] H k) r1 ρ Q := by
  intro σ H0 H G v1 f1 k S e1 _ hk
  obtain ⟨a, xs, rfl, ha, hx⟩ := h.list S e1
  obtain ⟨z1, z2, z3⟩ := da_zip hx
  have S1 := S.frame (G' := G) fun _ => .inl
  refine ⟨a, xs.zip ds, rfl, by rw [z1]; exact .inl (.inl ha), fun z hz => Da.dp _ _ (Da.mono S.same _ _ (z3 z hz)), by rw [z2]; exact h1, by rw [z2]; exact h2, fun z hz => h3 _ (by rw [← z2]; exact List.mem_map_of_mem hz), fun zs' p hp pw hn => ?_⟩
  refine hk _ _ _ _ _ _ (q (zs'.map (·.2)) (by rw [← z2]; exact hp.map _) (List.pairwise_map.mpr pw)) (post_own S1 hn (da_unzip fun z hz => z3 z (hp.mem_iff.mp hz)))
/-! ### in -/
theorem eqV_da {H : Hp} {x y : V} {d e : PyData} (hx : Da K H x d) (hy : Da K H y e) (fx : flatV x = true) (fy : flatV y = true) : eqV x y = PyData.eqv d e := by
  cases hx <;> cases hy <;> first | rfl | (simp [flatV] at fx fy; done) | (simp [eqV, PyData.eqv]; done) | skip
  all_goals first | rfl | (rename_i a b; cases a <;> cases b <;> simp [eqV, PyData.eqv]; done) | skip
end
end ML

namespace ML
open PySem PySem.Spec PyProof.Rows L2 KS GL LB
/-- the part lo .. hi of a list, as Python cuts -/
def cutA {α : Type} (xs : List α) (lo hi : Option Int) : List α := (xs.drop (HT.sIx xs.length 0 lo)).take (HT.sIx xs.length xs.length hi - HT.sIx xs.length 0 lo)
section
variable {K : PySem.W.Frag} {ρ : MS} {Q : Rt → MS → Prop} {Qb : Bool → MS → Prop} {ta tb te tc : TE} {t u : TT} {np : Nat} {Φ : Out} {ts us : TS} {r1 r2 : Rt}
/-! ### in -/
def flatD : PyData → Bool
  | .none => true
  | .bool _ => true
  | .int _ => true
  | .str _ => true
  | _ => false
theorem flat_da {H : Hp} {v : V} {d : PyData} (h : Da K H v d) (f : flatD d = true) : flatV v = true := by
  cases h <;> first | rfl | exact absurd f (by simp [flatD])
theorem flat_all {H : Hp} : ∀ {vs : List V} {ds : List PyData}, DaAll K H vs ds → ds.all flatD = true → vs.all flatV = true
  | _, _, .nil, _ => rfl
  | _, _, .cons h t, f => by
    rw [List.all_cons, Bool.and_eq_true] at f
    rw [List.all_cons, flat_da h f.1, flat_all t f.2]
    rfl
theorem in_da {H H' : Hp} {x : V} {d : PyData} (hx : Da K H x d) (fx : flatD d = true) : ∀ {vs : List V} {ds : List PyData}, DaAll K H' vs ds → ds.all flatD = true → inV x vs = ds.any fun y => PyData.eqv y d
  | _, _, .nil, _ => rfl
  | y :: _, e :: _, .cons h t, f => by
    rw [List.all_cons, Bool.and_eq_true] at f
    have ih := in_da hx fx t f.2
    unfold inV at ih ⊢
    rw [List.any_cons, List.any_cons, ih]
    have e : eqV y x = PyData.eqv e d := by
      have h1 := flat_da h f.1
      have h2 := flat_da hx fx
      cases h <;> cases hx <;> first | rfl | (simp [flatV] at h1 h2; done) | (simp [eqV, PyData.eqv]; done) | (rename_i a b; cases a <;> cases b <;> simp [eqV, PyData.eqv])
    rw [e]
theorem op_in {neg : Bool} {d : PyData} {ds : List PyData} (h1 : rd K ρ r1 d) (h2 : rdS K ρ r2 ds) (f1 : flatD d = true) (f2 : ds.all flatD = true) (q : Q (.val (dat K (.bool (if neg then !ds.any (fun y => PyData.eqv y d) else ds.any fun y => PyData.eqv y d)))) ρ) : opR (rIn K neg) r1 r2 ρ Q := by
  intro σ H0 H G v1 v2 g1 g2 k S e1 e2 _ _ _ hk
  obtain ⟨a, xs, rfl, h3, h4⟩ := h2.seq S e2
  have h1' := h1.da S e1
  refine ⟨a, xs, rfl, h3, flat_da h1' f1, flat_all h4 f2, ?_⟩
  rw [in_da h1' f1 h4 f2]
  exact hk _ _ _ _ _ _ q (post_sc S (fun _ => .inl) (.bl _))
theorem op_inDd {d : PyData} {ds : List PyData} (h1 : rd K ρ r1 d) (h2 : rd K ρ r2 (.list ds)) (f1 : SeqAt.shaped d = true) (f2 : SeqAt.shaped (.list ds) = true) (q : Q (.val (dat K (.bool (ds.any fun y => PyData.eqv y d)))) ρ) : opR (rInD K) r1 r2 ρ Q :=
  op_sc h1 h2 (fun H v1 v2 k e1 e2 hk => ⟨d, ds, Da.dp _ _ e1, Da.dp _ _ e2, f1, f2, hk _ (.bl _)⟩) q
theorem op_ninDd {d : PyData} {ds : List PyData} (h1 : rd K ρ r1 d) (h2 : rd K ρ r2 (.list ds)) (f1 : SeqAt.shaped d = true) (f2 : SeqAt.shaped (.list ds) = true) (q : Q (.val (dat K (.bool (!ds.any fun y => PyData.eqv y d)))) ρ) : opR (rNotInD K) r1 r2 ρ Q :=
  op_sc h1 h2 (fun H v1 v2 k e1 e2 hk => ⟨d, ds, Da.dp _ _ e1, Da.dp _ _ e2, f1, f2, hk _ (.bl _)⟩) q
/-! ### is None -/
theorem op_isN_ {d : PyData} (h1 : rd K ρ r1 d) (h2 : rd K ρ r2 .none) (q : Q (.val (dat K (.bool (match d with | .none => true | _ => false)))) ρ) : opR (fun x y H Q => y = .non ∧ Q (.bl (decide (x = .non))) H) r1 r2 ρ Q :=
  op_sc h1 h2 (fun H v1 v2 k e1 e2 hk => by
    cases e2
    refine ⟨rfl, hk _ ?_⟩
    cases e1 <;> exact .bl _) q
theorem op_notN_ {d : PyData} (h1 : rd K ρ r1 d) (h2 : rd K ρ r2 .none) (q : Q (.val (dat K (.bool (match d with | .none => false | _ => true)))) ρ) : opR (fun x y H Q => y = .non ∧ Q (.bl (!decide (x = .non))) H) r1 r2 ρ Q :=
  op_sc h1 h2 (fun H v1 v2 k e1 e2 hk => by
    cases e2
    refine ⟨rfl, hk _ ?_⟩
    cases e1 <;> exact .bl _) q
/-! ### lists and tuples put together, cut -/
theorem op_cat_ {ds es : List PyData} (h1 : rd K ρ r1 (.list ds)) (h2 : rd K ρ r2 (.list es)) (hl : ds.length + es.length ≤ sizeLine) (q : Q (.val (lo K (ds ++ es))) ρ) : opR rCat r1 r2 ρ Q := by
  intro σ H0 H G v1 v2 f1 f2 k S e1 e2 _ _ _ hk
  obtain ⟨a, xs, rfl, ha, hx⟩ := h1.list S e1
  obtain ⟨b, ys, rfl, hb, hy⟩ := h2.list S e2
  exact ⟨a, b, xs, ys, rfl, rfl, ha, hb, by rw [hx.len, hy.len]; exact hl, fun p hp => hk _ _ _ _ _ _ q (post_own (S.frame fun _ => .inl) hp (hx.append hy))⟩
theorem DaAll.flat {H : Hp} {vs : List V} {ds : List PyData} (h : DaAll K H vs ds) : ∀ n : Nat, DaAll K H (List.replicate n vs).flatten (List.replicate n ds).flatten
  | 0 => .nil
  | n + 1 => by
    rw [List.replicate_succ, List.replicate_succ, List.flatten_cons, List.flatten_cons]
    exact h.append (DaAll.flat h n)
theorem op_rep_ {ds : List PyData} {n : Int} (h1 : rd K ρ r1 (.list ds)) (h2 : rd K ρ r2 (.int n)) (n1 : -(2 ^ 63) ≤ n) (n2 : n < 2 ^ 63) (hl : ds.length * n.toNat ≤ sizeLine) (q : Q (.val (lo K (List.replicate n.toNat ds).flatten)) ρ) : opR rRep r1 r2 ρ Q := by
  intro σ H0 H G v1 v2 f1 f2 k S e1 e2 _ _ _ hk
  obtain ⟨a, xs, rfl, ha, hx⟩ := h1.list S e1
  obtain rfl := h2.int S e2
  exact ⟨a, n, xs, rfl, rfl, ha, n1, n2, by rw [hx.len]; exact hl, fun p hp => hk _ _ _ _ _ _ q (post_own (S.frame fun _ => .inl) hp (hx.flat _))⟩
theorem op_catA_ {ds es : List PyData} (h1 : rd K ρ r1 (.tuple ds)) (h2 : rd K ρ r2 (.tuple es)) (hl : ds.length + es.length ≤ sizeLine) (q : Q (.val (dat K (.tuple (ds ++ es)))) ρ) : opR (rCatA K) r1 r2 ρ Q := by
  intro σ H0 H G v1 v2 f1 f2 k S e1 e2 _ _ _ hk
  obtain ⟨a, xs, rfl, ha, hx⟩ := h1.tup S e1
  obtain ⟨b, ys, rfl, hb, hy⟩ := h2.tup S e2
  have S1 := S.frame (G' := G) fun _ => .inl
  refine ⟨a, b, xs, ys, rfl, rfl, sameT S.same ha, sameT S.same hb, by rw [hx.len, hy.len]; exact hl, fun e => ?_, fun _ e => ?_, fun _ _ p hp => ?_⟩
  · subst e
    cases hx
    exact hk _ _ _ _ _ _ q (post_pure S1 (.tup hb hy))
  · subst e
    cases hy
    rw [List.append_nil] at q
    exact hk _ _ _ _ _ _ q (post_pure S1 (.tup ha hx))
  · exact hk _ _ _ _ _ _ q (post_new S1 hp (.tup (.inl (.inl upd_same)) (DaAll.mono (same_upd (S1.same.free hp)) _ _ (hx.append hy))))
/-- an end of a part -/
def evO (to : TO) (ρ : MS) (Q : Option Int → MS → Prop) : Prop := ∀ (σ : L2.St) (H0 H : Hp) (G : FP) (k : Option Int → Hp → Prop), Sat ρ σ H0 H G →
  (∀ o ρ' H0' H', Q o ρ' → Ext G H0 H H0' H' → Sat ρ' σ H0' H' G → k o H') → to σ H k
theorem evO_none {Q : Option Int → MS → Prop} (q : Q none ρ) : evO tNoPart ρ Q := fun σ H0 H G k S hk => hk none ρ H0 H q Ext.refl S
theorem evO_some {Q : Option Int → MS → Prop} (h : ev te ρ fun r ρ1 => ∃ i, r = .val (dat K (.int i)) ∧ Q (some i) ρ1) : evO (tPart te) ρ Q := by
  intro σ H0 H G k S hk
  refine h σ H0 H G _ S fun r ρ1 v f H1 H1' ⟨i, e, q⟩ p => ?_
  subst e
  have hv := p.rt.1
  cases hv
  exact ⟨i, rfl, hk _ _ _ _ q p.ext (p.sat.frame fun _ => .inl)⟩
def slR (r : V → Option Int → Option Int → Hp → VK → Prop) (r1 : Rt) (lo hi : Option Int) (ρ : MS) (Q : Rt → MS → Prop) : Prop := unR (fun v H k => r v lo hi H k) r1 ρ Q
theorem ev_sl {r : V → Option Int → Option Int → Hp → VK → Prop} {tl th : TO} (h : ev te ρ fun r1 ρ1 => evO tl ρ1 fun l ρ2 => evO th ρ2 fun h ρ3 => slR r r1 l h ρ3 Q) : ev (tSl r te tl th) ρ Q := by
  intro σ H0 H G k S hk
  refine h σ H0 H G _ S fun r1 ρ1 v1 f1 H1 H1' h1 p1 => ?_
  refine h1 σ H1 H1' (fun a => G a ∨ f1 a) _ p1.sat fun l ρ2 H2 H2' h2 e2 S2 => ?_
  refine h2 σ H2 H2' (fun a => G a ∨ f1 a) _ S2 fun o ρ3 H3 H3' h3 e3 S3 => ?_
  have e23 := e2.trans e3
  have rt1 : RtH r1 σ H3 H3' v1 f1 := p1.rt.loc e23.s0 fun a ha => ⟨e23.fr a (.inr ha), (S3.fr a (.inr ha)).2⟩
  exact h3 σ H3 H3' G v1 f1 _ S3 rt1 p1.dis fun r ρ' v f H4 H4' q p => hk r ρ' v f H4 H4' q (post_ext (p1.ext.trans (e23.weak fun _ => .inl)) p)
theorem DaAll.cut {H : Hp} {vs : List V} {ds : List PyData} (h : DaAll K H vs ds) (l o : Option Int) : DaAll K H (cutV vs l o) (cutA ds l o) := by
  unfold cutV cutA
  rw [h.len]
  exact (h.drop _).take _
theorem sl_list_ {ds : List PyData} {l o : Option Int} (h1 : rd K ρ r1 (.list ds)) (q : Q (.val (lo K (cutA ds l o))) ρ) : slR (rSlL K) r1 l o ρ Q := by
  intro σ H0 H G v1 f1 k S e1 _ hk
  obtain ⟨a, xs, rfl, ha, hx⟩ := h1.list S e1
  exact ⟨a, xs, rfl, .inl (.inl ha), fun p hp => hk _ _ _ _ _ _ q (post_own (S.frame fun _ => .inl) hp (hx.cut l o))⟩
theorem sl_tup_ {ds : List PyData} {l o : Option Int} (h1 : rd K ρ r1 (.tuple ds)) (q : Q (.val (dat K (.tuple (cutA ds l o)))) ρ) : slR (rSlA K) r1 l o ρ Q := by
  intro σ H0 H G v1 f1 k S e1 _ hk
  obtain ⟨a, xs, rfl, ha, hx⟩ := h1.tup S e1
  have S1 := S.frame (G' := G) fun _ => .inl
  refine ⟨a, xs, rfl, sameT S.same ha, fun ⟨z1, z2⟩ => ?_, fun _ p hp => ?_⟩
  · have : cutA ds l o = ds := by
      unfold cutA
      rw [hx.len] at z1 z2
      rw [z1, z2]
      simp
    rw [this] at q
    exact hk _ _ _ _ _ _ q (post_pure S1 (.tup ha hx))
  · exact hk _ _ _ _ _ _ q (post_new S1 hp (.tup (.inl (.inl upd_same)) (DaAll.mono (same_upd (S1.same.free hp)) _ _ (hx.cut l o))))
theorem sl_str_ {z : Str} {l o : Option Int} (h1 : rd K ρ r1 (.str z)) (hz : z.length ≤ sizeLine) (q : Q (.val (dat K (.str (cutS z l o)))) ρ) : slR rSlS r1 l o ρ Q :=
  un_sc h1 (fun H v1 k e1 hk => by
    cases e1
    exact ⟨z, rfl, hz, hk _ (.str _)⟩) q
/-- xs[::-1] -/
theorem ev_rev (h : ev te ρ fun r ρ1 => ∃ ds, rd K ρ1 r (.list ds) ∧ Q (.val (lo K ds.reverse)) ρ1) : ev (tRevL K te) ρ Q := by
  intro σ H0 H G k S hk
  refine h σ H0 H G _ S fun r1 ρ1 v1 f1 H1 H1' ⟨ds, hr, q⟩ p => ?_
  obtain ⟨a, xs, rfl, ha, hx⟩ := hr.list p.sat p.rt
  exact ⟨a, xs, rfl, .inl (.inl ha), fun p' hp => hk _ _ _ _ _ _ q (post_ext p.ext (post_own (p.sat.frame fun _ => .inl) hp hx.reverse))⟩
/-! ### methods of lists -/
theorem ev_bm0 {r : V → List V → Hp → VK → Prop} (h : ev ta ρ fun r1 ρ1 => ∃ ds, rd K ρ1 r1 (.list ds) ∧ unR (fun v H k => r v [] H k) r1 ρ1 Q) : ev (tBM0 K "list" r ta) ρ Q := by
  intro σ H0 H G k S hk
  refine h σ H0 H G _ S fun r1 ρ1 v1 f1 H1 H1' ⟨ds, hr, h1⟩ p1 => ?_
  obtain ⟨a, xs, e, ha, hx⟩ := hr.list p1.sat p1.rt
  refine ⟨by subst e; exact .inl ⟨rfl, xs, .inl (.inl ha)⟩, ?_⟩
  exact h1 σ H1 H1' G v1 f1 _ p1.sat p1.rt p1.dis fun r ρ' v f H3 H3' h3 p3 => hk r ρ' v f H3 H3' h3 (post_ext p1.ext p3)
theorem ev_bm1 {r : V → List V → Hp → VK → Prop} (h : ev ta ρ fun r1 ρ1 => ∃ ds, rd K ρ1 r1 (.list ds) ∧ ev tb ρ1 fun r2 ρ2 => opR (fun v w H k => r v [w] H k) r1 r2 ρ2 Q) : ev (tBM K "list" r ta (tCons tb tNil)) ρ Q := by
  intro σ H0 H G k S hk
  refine h σ H0 H G _ S fun r1 ρ1 v1 f1 H1 H1' ⟨ds, hr, h1⟩ p1 => ?_
  obtain ⟨a, xs, e, ha, hx⟩ := hr.list p1.sat p1.rt
  refine ⟨by subst e; exact .inl ⟨rfl, xs, .inl (.inl ha)⟩, ?_⟩
  refine h1 σ H1 H1' (fun a => G a ∨ f1 a) _ p1.sat fun r2 ρ2 v2 f2 H2 H2' h2 p2 => ?_
  have rt1 : RtH r1 σ H2 H2' v1 f1 := p1.rt.loc p2.ext.s0 fun a ha => ⟨p2.ext.fr a (.inr ha), (p2.sat.fr a (.inl (.inr ha))).2⟩
  refine h2 σ H2 H2' G v1 v2 f1 f2 _ (p2.sat.frame fun a ha => ?_) rt1 p2.rt p1.dis (fun a h1 h2 => p2.dis a h1 (.inl h2)) (fun a h1 h2 => p2.dis a h2 (.inr h1)) fun r ρ' v f H3 H3' h3 p3 => hk r ρ' v f H3 H3' h3 (post_ext (p1.ext.trans (p2.ext.weak fun _ => .inl)) p3)
  rcases ha with h | h | h
  · exact .inl (.inl h)
  · exact .inl (.inr h)
  · exact .inr h
/-- a list in a slot changes -/
theorem mut_slot {i : Nat} {ds es : List PyData} {σ : L2.St} {H0 H : Hp} {G : FP} {v : V} (e : ρ[i]? = some (some (lo K ds))) (S : Sat ρ σ H0 H G) (hv : σ[i]? = some (some v)) : ∃ a xs, v = .ref a ∧ H a = some (.lst xs) ∧ DaAll K H0 xs ds ∧ ¬ G a ∧
    ∀ (H0' : Hp) (ys : List V), H0' = H0 → DaAll K H0 ys es → Ext G H0 H H0 (upd H a (.lst ys)) ∧ Sat (ρ.set i (some (lo K es))) σ H0 (upd H a (.lst ys)) G := by
  obtain ⟨w, f, ew, ⟨a, xs, rfl, hf, h1, h2, h3⟩, d, S2⟩ := S.take e
  obtain rfl : V.ref a = v := Option.some.inj (Option.some.inj (ew.symm.trans hv))
  have hGa : ¬ G a := d a ((hf a).mpr rfl)
  refine ⟨a, xs, rfl, h2, h3, hGa, fun _ ys _ hy => ⟨⟨Same.refl _, fun b hb => upd_ne fun z => hGa (z ▸ hb)⟩, ?_⟩⟩
  have S3 : Sat (ρ.set i none) σ H0 (upd H a (.lst ys)) fun b => G b ∨ f b := S2.mut (fun b hb => upd_ne fun z => hb ((hf b).mpr z)) fun b hb => by
    rw [(hf b).mp hb, upd_same]
    exact Option.some_ne_none _
  exact S3.back (R := lo K es) hv ⟨a, ys, rfl, hf, h1, upd_same, hy⟩ d
theorem op_append {i : Nat} {ds : List PyData} {d : PyData} {ρ' : MS} (hd : asD K ρ r2 d ρ') (e : ρ'[i]? = some (some (lo K ds))) (hl : ds.length < sizeLine) (q : Q (.val (dat K .none)) (ρ'.set i (some (lo K (ds ++ [d]))))) : opR (fun v w H k => rAppend v [w] H k) (.at i) r2 ρ Q := by
  intro σ H0 H G v1 v2 f1 f2 k S e1 e2 d1 d2 d3 hk
  obtain ⟨H0', s0, hda, S2⟩ := hd.go (G := G) (f := f2) (S.frame fun a ha => ha.elim .inl fun h => .inr (.inr h)) e2 d2
  obtain ⟨a, xs, rfl, h2, h3, hG, fin⟩ := mut_slot (es := ds ++ [d]) e S2 e1.1
  obtain ⟨x1, x2⟩ := fin _ (xs ++ [v2]) rfl (h3.append (.cons hda .nil))
  exact ⟨a, xs, v2, rfl, rfl, h2, by rw [h3.len]; exact hl, hk _ _ _ (fun _ => False) _ _ q ⟨⟨s0.trans x1.s0, x1.fr⟩, ⟨.non, fun _ h => h⟩, fun _ h => h.elim, x2.frame fun a ha => ha.resolve_right id⟩⟩
theorem op_extend {i : Nat} {ds es : List PyData} (e : ρ[i]? = some (some (lo K ds))) (h2 : rd K ρ r2 (.list es)) (hl : ds.length + es.length ≤ sizeLine) (q : Q (.val (dat K .none)) (ρ.set i (some (lo K (ds ++ es))))) : opR (fun v w H k => rExtend v [w] H k) (.at i) r2 ρ Q := by
  intro σ H0 H G v1 v2 f1 f2 k S e1 e2 d1 d2 d3 hk
  obtain ⟨b, ys, rfl, hb, hy⟩ := h2.list S e2
  have S1 := S.frame (G' := G) fun _ => .inl
  obtain ⟨a, xs, rfl, h2, h3, hG, fin⟩ := mut_slot (es := ds ++ es) e S1 e1.1
  obtain ⟨x1, x2⟩ := fin _ (xs ++ ys) rfl (h3.append hy)
  exact ⟨a, b, xs, ys, rfl, rfl, h2, hb, by rw [h3.len, hy.len]; exact hl, hk _ _ _ (fun _ => False) _ _ q ⟨x1, ⟨.non, fun _ h => h⟩, fun _ h => h.elim, x2.frame fun a ha => ha.resolve_right id⟩⟩
theorem un_pop {i : Nat} {ds : List PyData} {d : PyData} (e : ρ[i]? = some (some (lo K (ds ++ [d])))) (q : Q (.val (dat K d)) (ρ.set i (some (lo K ds)))) : unR (fun v H k => rPop v [] H k) (.at i) ρ Q := by
  intro σ H0 H G v1 f1 k S e1 d1 hk
  have S1 := S.frame (G' := G) fun _ => .inl
  obtain ⟨a, xs, rfl, h2, h3, hG, fin⟩ := mut_slot (es := ds) e S1 e1.1
  have hl := h3.len
  have h4 := h3.dropLast
  rw [List.dropLast_concat] at h4
  obtain ⟨x1, x2⟩ := fin _ xs.dropLast rfl h4
  obtain ⟨v, ev, hv⟩ := h3.get (i := ds.length) (d := d) (by simp)
  rw [List.length_append] at hl
  have hl' : xs.length - 1 = ds.length := by simp at hl; omega
  exact ⟨a, xs, v, rfl, rfl, h2, by rw [hl']; exact ev, hk _ _ _ (fun _ => False) _ _ q ⟨x1, ⟨hv, fun _ h => h⟩, fun _ h => h.elim, x2.frame fun a ha => ha.resolve_right id⟩⟩
/-- xs[i] = e -/
theorem tg_setL {i : Nat} {n : Int} {j : Nat} {ds : List PyData} {d : PyData} {r : Rt} {l : List Nat} {Qm : MS → Prop} (hd : asD K ρ r d ρ) (h : ev te ρ fun r1 ρ1 => r1 = .val (dat K (.int n)) ∧ ρ1 = ρ) (e : ρ[i]? = some (some (lo K ds))) (hj : ixN ds.length n = some j) (q : Qm (ρ.set i (some (lo K (ds.set j d))))) : tg [] (gSub (tVar i) te rSetL) r ρ Qm := by
  intro σ H0 H G v f k S hr hdis hk
  obtain ⟨H0', s0, hda, S1⟩ := hd.go S hr hdis
  obtain ⟨w, fw, ew, _⟩ := S1.get e
  refine ⟨w, ew, ?_⟩
  refine h σ H0' H G _ S1 fun r1 ρ1 v1 f1 H1 H1' ⟨er, eρ⟩ p1 => ?_
  subst er eρ
  have hv := p1.rt.1
  cases hv
  have S2 := p1.sat.frame (G' := G) fun _ => .inl
  obtain ⟨a, xs, rfl, h2, h3, hG, fin⟩ := mut_slot (es := ds.set j d) e S2 ew
  obtain ⟨x1, x2⟩ := fin _ (xs.set j v) rfl (h3.set (Da.mono p1.ext.s0 _ _ hda))
  refine ⟨a, xs, n, j, rfl, rfl, h2, by rw [h3.len]; exact hj, hk _ σ H1 _ q (fun _ _ => rfl) (fun _ _ => rfl) ⟨s0.trans p1.ext.s0, fun b hb => ?_⟩ x2⟩
  rw [x1.fr b hb, p1.ext.fr b hb]
end
end ML

namespace ML
open PySem PySem.Spec PyProof.Rows L2 KS GL LB
/-! ### dicts, keys ints and texts -/
section
variable {κ α : Type} [DecidableEq κ]
def mget (m : List (κ × α)) (k : κ) : Option α := (m.find? fun kv => decide (kv.1 = k)).map (·.2)
def mput (m : List (κ × α)) (k : κ) (v : α) : List (κ × α) := if (m.any fun kv => decide (kv.1 = k)) = true then m.map (fun kv => if kv.1 = k then (kv.1, v) else kv) else m ++ [(k, v)]
theorem mget_nil {k : κ} : mget ([] : List (κ × α)) k = none := rfl
theorem mget_pos {p : κ × α} {r : List (κ × α)} {k : κ} (e : p.1 = k) : mget (p :: r) k = some p.2 := by simp [mget, List.find?_cons, e]
theorem mget_neg {p : κ × α} {r : List (κ × α)} {k : κ} (e : ¬ p.1 = k) : mget (p :: r) k = mget r k := by simp [mget, List.find?_cons, e]
theorem mget_any (k : κ) : ∀ m : List (κ × α), (m.any fun kv => decide (kv.1 = k)) = (mget m k).isSome
  | [] => rfl
  | p :: r => by
    rw [List.any_cons]
    by_cases e : p.1 = k
    · simp only [mget_pos e, decide_eq_true e, Bool.true_or, Option.isSome_some]
    · rw [mget_neg e, decide_eq_false e, Bool.false_or]; exact mget_any k r
theorem mget_map (k j : κ) (y : α) : ∀ m : List (κ × α), mget (m.map fun kv => if kv.1 = k then (kv.1, y) else kv) j = (mget m j).map fun x => if j = k then y else x
  | [] => rfl
  | p :: r => by
    have ih := mget_map k j y r
    rw [List.map_cons]
    by_cases h : p.1 = k
    · rw [if_pos h]
      by_cases e : p.1 = j
      · rw [mget_pos (p := (p.1, y)) e, mget_pos e, Option.map_some, if_pos (e.symm.trans h)]
      · rw [mget_neg (p := (p.1, y)) e, mget_neg e, ih]
    · rw [if_neg h]
      by_cases e : p.1 = j
      · rw [mget_pos (p := p) e, mget_pos e, Option.map_some, if_neg (fun z => h (e.trans z))]
      · rw [mget_neg (p := p) e, mget_neg e, ih]
theorem mget_snoc (k j : κ) (y : α) : ∀ m : List (κ × α), mget m k = none → mget (m ++ [(k, y)]) j = if j = k then some y else mget m j
  | [], _ => by
    by_cases e : k = j
    · rw [if_pos e.symm]; exact mget_pos (p := (k, y)) e
    · rw [if_neg (fun z => e z.symm)]; exact mget_neg (p := (k, y)) e
  | p :: r, hn => by
    rw [List.cons_append]
    have hk : ¬ p.1 = k := fun z => by rw [mget_pos z] at hn; cases hn
    rw [mget_neg hk] at hn
    have ih := mget_snoc k j y r hn
    by_cases e : p.1 = j
    · rw [mget_pos e, mget_pos e, if_neg fun z => hk (e.trans z)]
    · rw [mget_neg e, mget_neg e, ih]
theorem mget_put (m : List (κ × α)) (k j : κ) (y : α) : mget (mput m k y) j = if j = k then some y else mget m j := by
  unfold mput
  rw [mget_any]
  cases h : mget m k with
  | none =>
    rw [if_neg (by simp)]
    exact mget_snoc k j y m h
  | some x =>
    rw [if_pos (by simp), mget_map]
    by_cases e : j = k
    · rw [e, h]
      simp
    · simp [e]
theorem mput_len (m : List (κ × α)) (k : κ) (y : α) : (mput m k y).length ≤ m.length + 1 := by
  unfold mput
  split <;> simp
theorem mput_new {m : List (κ × α)} {k : κ} {y : α} (h : mget m k = none) : mput m k y = m ++ [(k, y)] := by
  unfold mput
  rw [mget_any, h, if_neg (by simp)]
theorem mget_none {m : List (κ × α)} {k : κ} : mget m k = none ↔ k ∉ m.map (·.1) := by
  induction m with
  | nil => simp [mget]
  | cons p r ih =>
    by_cases e : p.1 = k
    · rw [mget_pos e]
      simp [e]
    · rw [mget_neg e, ih, List.map_cons, List.mem_cons]
      constructor
      · rintro h (z | z)
        · exact e z.symm
        · exact h z
      · exact fun h z => h (.inr z)
theorem mput_keys {m : List (κ × α)} {k : κ} {y : α} : (mput m k y).map (·.1) = if k ∈ m.map (·.1) then m.map (·.1) else m.map (·.1) ++ [k] := by
  by_cases h : k ∈ m.map (·.1)
  · rw [if_pos h]
    have : (mget m k).isSome = true := by
      cases e : mget m k with
      | none => exact absurd h (mget_none.mp e)
      | some _ => rfl
    unfold mput
    rw [mget_any, if_pos this, List.map_map]
    refine List.map_congr_left fun kv _ => ?_
    simp only [Function.comp]
    split <;> rfl
  · rw [if_neg h, mput_new (mget_none.mpr h), List.map_append]
    rfl
end
inductive DkAll (K : PySem.W.Frag) (H : Hp) : List (Key × V) → List (Key × PyData) → Prop
  | nil : DkAll K H [] []
  | cons {k : Key} {v : V} {d : PyData} {vs : List (Key × V)} {ds : List (Key × PyData)} : Da K H v d → DkAll K H vs ds → DkAll K H ((k, v) :: vs) ((k, d) :: ds)
section
variable {K : PySem.W.Frag} {H H' : Hp}
theorem DkAll.mono (s : Same H H') : ∀ {vs : List (Key × V)} {ds : List (Key × PyData)}, DkAll K H vs ds → DkAll K H' vs ds
  | _, _, .nil => .nil
  | _, _, .cons h t => .cons (Da.mono s _ _ h) (DkAll.mono s t)
theorem DkAll.len : ∀ {vs : List (Key × V)} {ds : List (Key × PyData)}, DkAll K H vs ds → vs.length = ds.length
  | _, _, .nil => rfl
  | _, _, .cons h t => by rw [List.length_cons, List.length_cons, DkAll.len t]
theorem DkAll.keys : ∀ {vs : List (Key × V)} {ds : List (Key × PyData)}, DkAll K H vs ds → vs.map (·.1) = ds.map (·.1)
  | _, _, .nil => rfl
  | _, _, .cons h t => by rw [List.map_cons, List.map_cons, DkAll.keys t]
theorem DkAll.get : ∀ {vs : List (Key × V)} {ds : List (Key × PyData)} (k : Key), DkAll K H vs ds → (valV vs k = none ∧ mget ds k = none) ∨ ∃ v d, valV vs k = some v ∧ mget ds k = some d ∧ Da K H v d
  | _, _, _, .nil => .inl ⟨rfl, rfl⟩
  | (k', v) :: _, (_, d) :: _, k, .cons h t => by
    by_cases e : k' = k
    · exact .inr ⟨v, d, valV_pos (p := (k', v)) e, mget_pos (p := (k', d)) e, h⟩
    · rw [valV_neg (p := (k', v)) e, mget_neg (p := (k', d)) e]
      exact DkAll.get k t
theorem DkAll.any : ∀ {vs : List (Key × V)} {ds : List (Key × PyData)} (k : Key), DkAll K H vs ds → (vs.any fun kv => decide (kv.1 = k)) = ds.any fun kv => decide (kv.1 = k)
  | _, _, _, .nil => rfl
  | _, _, k, .cons h t => by rw [List.any_cons, List.any_cons, DkAll.any k t]
theorem DkAll.map {v : V} {d : PyData} (k : Key) (hd : Da K H v d) : ∀ {vs : List (Key × V)} {ds : List (Key × PyData)}, DkAll K H vs ds → DkAll K H (vs.map fun kv => if kv.1 = k then (kv.1, v) else kv) (ds.map fun kv => if kv.1 = k then (kv.1, d) else kv)
  | _, _, .nil => .nil
  | (k', _) :: _, (_, _) :: _, .cons h t => by
    rw [List.map_cons, List.map_cons]
    by_cases e : k' = k
    · simp only [e, if_true]
      exact .cons hd (DkAll.map k hd t)
    · simp only [e, if_false]
      exact .cons h (DkAll.map k hd t)
theorem DkAll.snoc {v : V} {d : PyData} {k : Key} (hd : Da K H v d) : ∀ {vs : List (Key × V)} {ds : List (Key × PyData)}, DkAll K H vs ds → DkAll K H (vs ++ [(k, v)]) (ds ++ [(k, d)])
  | _, _, .nil => .cons hd .nil
  | _, _, .cons h t => .cons h (DkAll.snoc hd t)
theorem DkAll.put {v : V} {d : PyData} {k : Key} (hd : Da K H v d) {vs : List (Key × V)} {ds : List (Key × PyData)} (h : DkAll K H vs ds) : DkAll K H (putK vs k v) (mput ds k d) := by
  unfold putK mput
  rw [h.any k]
  split
  · exact h.map k hd
  · exact h.snoc hd
end
/-- a dict of one's own -/
def dk (K : PySem.W.Frag) (m : List (Key × PyData)) : Res := ⟨fun H0 H v f => ∃ a vs, v = .ref a ∧ (∀ b, f b ↔ b = a) ∧ H0 a = none ∧ H a = some (.dK vs) ∧ DkAll K H0 vs m,
  fun {H0 H0' H H' v f} ⟨a, xs, e, hf, h1, h2, h3⟩ s hk => ⟨a, xs, e, hf, (hk a ((hf a).mpr rfl)).2, by rw [(hk a ((hf a).mpr rfl)).1]; exact h2, h3.mono s⟩,
  fun {H0 H v f b} ⟨a, xs, e, hf, h1, h2, h3⟩ hb => by
    obtain rfl := (hf b).mp hb
    exact ⟨by rw [h2]; exact Option.some_ne_none _, h1⟩⟩
def dictP (K : PySem.W.Frag) (m : List (Key × PyData)) : Pd := ⟨fun H v => ∃ a vs, v = .ref a ∧ H a = some (.dK vs) ∧ DkAll K H vs m, fun {H H' v} ⟨a, vs, e, h1, h2⟩ s => ⟨a, vs, e, s _ _ h1, h2.mono s⟩⟩
/-- a dict that stands -/
abbrev ddk (K : PySem.W.Frag) (m : List (Key × PyData)) : Res := pu (dictP K m)
def keyD : Key → PyData
  | .inl n => .int n
  | .inr z => .str z
theorem key_da {K : PySem.W.Frag} {H : Hp} {k : Key} {v : V} (h : Da K H v (keyD k)) : v = kV k := by
  cases k <;> (cases h; rfl)
theorem da_key {K : PySem.W.Frag} {H : Hp} (k : Key) : Da K H (kV k) (keyD k) := by
  cases k
  · exact .int _
  · exact .str _
section
variable {K : PySem.W.Frag} {ρ : MS} {Q : Rt → MS → Prop} {Qb : Bool → MS → Prop} {ta tb te tc td ty tv : TE} {t u : TT} {np : Nat} {Φ : Out} {ts us : TS} {r1 r2 : Rt}
/-- reads as a dict -/
inductive rdD (K : PySem.W.Frag) (ρ : MS) : Rt → List (Key × PyData) → Prop
  | val {m : List (Key × PyData)} : rdD K ρ (.val (ddk K m)) m
  | own {m : List (Key × PyData)} : rdD K ρ (.val (dk K m)) m
  | slot {i : Nat} {m : List (Key × PyData)} : ρ[i]? = some (some (dk K m)) → rdD K ρ (.at i) m
  | slotP {i : Nat} {m : List (Key × PyData)} : ρ[i]? = some (some (ddk K m)) → rdD K ρ (.at i) m
theorem rdD.get {r : Rt} {m : List (Key × PyData)} {σ : L2.St} {H0 H : Hp} {G : FP} {v : V} {f : FP} (h : rdD K ρ r m) (S : Sat ρ σ H0 H G) (hr : RtH r σ H0 H v f) : ∃ a vs, v = .ref a ∧ H a = some (.dK vs) ∧ DkAll K H0 vs m := by
  cases h with
  | val =>
    obtain ⟨a, vs, e, h1, h2⟩ := hr.1
    exact ⟨a, vs, e, S.same _ _ h1, h2⟩
  | own =>
    obtain ⟨a, vs, e, _, _, h1, h2⟩ := hr
    exact ⟨a, vs, e, h1, h2⟩
  | slot h1 =>
    obtain ⟨w, f', e, q, _⟩ := S.get h1
    obtain rfl : w = v := Option.some.inj (Option.some.inj (e.symm.trans hr.1))
    obtain ⟨a, vs, e, _, _, h1, h2⟩ := q
    exact ⟨a, vs, e, h1, h2⟩
  | slotP h1 =>
    obtain ⟨w, f', e, q, _⟩ := S.get h1
    obtain rfl : w = v := Option.some.inj (Option.some.inj (e.symm.trans hr.1))
    obtain ⟨a, vs, e, h1, h2⟩ := q.1
    exact ⟨a, vs, e, S.same _ _ h1, h2⟩
theorem ev_dnew (q : Q (.val (dk K [])) ρ) : ev tDNewK ρ Q := by
  intro σ H0 H G k S hk p hp
  exact hk _ _ _ (fun a => a = p) _ _ q ⟨⟨Same.refl _, fun a ha => upd_ne fun e => (S.fr a ha).1 (e ▸ hp)⟩, ⟨p, [], rfl, fun _ => Iff.rfl, S.same.free hp, upd_same, .nil⟩, fun a e ha => (S.fr a ha).1 (e ▸ hp), S.own hp⟩
/-- a written dict's pairs -/
def evPs (K : PySem.W.Frag) (trs : List (TE × TE)) (ρ : MS) (Q : List (Key × PyData) → MS → Prop) : Prop := ∀ (σ : L2.St) (H0 H : Hp) (G : FP) (k : List (V × V) → Hp → Prop), Sat ρ σ H0 H G →
  (∀ m ρ' ps H0' H', Q m ρ' → Ext G H0 H H0' H' → (∃ vs, ps = vs.map (fun kv : Key × V => (kV kv.1, kv.2)) ∧ DkAll K H0' vs m) → Sat ρ' σ H0' H' G → k ps H') → tPairs trs σ H k
theorem evPs_nil {Q : List (Key × PyData) → MS → Prop} (q : Q [] ρ) : evPs K [] ρ Q := fun σ H0 H G k S hk => hk [] ρ [] H0 H q Ext.refl ⟨[], rfl, .nil⟩ S
theorem evPs_cons {trs : List (TE × TE)} {Q : List (Key × PyData) → MS → Prop} (h : ev ta ρ fun r ρ1 => ∃ x, r = .val (dat K (keyD x)) ∧ ev tb ρ1 fun r2 ρ2 => ∃ d ρ3, asD K ρ2 r2 d ρ3 ∧ evPs K trs ρ3 fun m ρ4 => Q ((x, d) :: m) ρ4) : evPs K ((ta, tb) :: trs) ρ Q := by
  intro σ H0 H G k S hk
  refine h σ H0 H G _ S fun r1 ρ1 v1 f1 H1 H1' ⟨x, e, h1⟩ p1 => ?_
  subst e
  have hv := key_da p1.rt.1
  subst hv
  refine h1 σ H1 H1' G _ (p1.sat.frame fun _ => .inl) fun r2 ρ2 v2 f2 H2 H2' ⟨d, ρ3, ha, h2⟩ p2 => ?_
  obtain ⟨H3, s3, hda, S3⟩ := ha.go p2.sat p2.rt p2.dis
  refine h2 σ H3 H2' G _ S3 fun m ρ4 ps H4 H4' h4 e4 ⟨vs, ep, hvs⟩ S4 => ?_
  subst ep
  exact hk _ ρ4 _ H4 H4' h4 ⟨((p1.ext.s0.trans p2.ext.s0).trans s3).trans e4.s0, fun a ha => ((e4.fr a ha).trans (p2.ext.fr a ha)).trans (p1.ext.fr a ha)⟩ ⟨(x, v2) :: vs, rfl, .cons (Da.mono e4.s0 _ _ hda) hvs⟩ S4
def mmerge (m : List (Key × PyData)) : List (Key × PyData) := m.foldl (fun acc kv => mput acc kv.1 kv.2) []
theorem dk_merge {H : Hp} : ∀ {vs : List (Key × V)} {m : List (Key × PyData)} {ws : List (Key × V)} {n : List (Key × PyData)}, DkAll K H vs m → DkAll K H ws n → DkAll K H (mergeK ws vs) (m.foldl (fun acc kv => mput acc kv.1 kv.2) n)
  | [], [], ws, n, .nil, h => h
  | (k, v) :: vs, (_, d) :: m, ws, n, .cons h t, h2 => by
    unfold mergeK
    rw [List.foldl_cons, List.foldl_cons]
    exact dk_merge t (h2.put h)
theorem ev_disp {trs : List (TE × TE)} (h : evPs K trs ρ fun m ρ1 => m.length ≤ 15 ∧ Q (.val (dk K (mmerge m))) ρ1) : ev (tDisp trs) ρ Q := by
  intro σ H0 H G k S hk p hp
  have hG : ¬ G p := fun e => (S.fr p e).1 hp
  refine h σ H0 (upd H p (.dK [])) (fun a => G a ∨ a = p) _ (S.own hp) fun m ρ1 ps H1 H1' ⟨hl, q⟩ e1 ⟨vs, ep, hvs⟩ S1 => ?_
  subst ep
  have hp1 : H1' p = some (.dK []) := by rw [e1.fr p (.inr rfl), upd_same]
  refine ⟨hp1, vs, rfl, by rw [hvs.len]; exact hl, hk _ _ _ (fun a => a = p) H1 _ q ⟨⟨e1.s0, fun a ha => ?_⟩, ⟨p, _, rfl, fun _ => Iff.rfl, (S1.fr p (.inr rfl)).2, upd_same, dk_merge hvs .nil⟩, fun a e => e ▸ hG, S1.mut (fun a ha => upd_ne ha) fun a ha => ?_⟩⟩
  · have ap : a ≠ p := fun e => hG (e ▸ ha)
    rw [upd_ne ap, e1.fr a (.inl ha), upd_ne ap]
  · rw [ha, upd_same]
    exact Option.some_ne_none _
theorem ev_dget {m : List (Key × PyData)} (h : ev td ρ fun r1 ρ1 => ev ty ρ1 fun r2 ρ2 => ∃ m x d, rdD K ρ2 r1 m ∧ r2 = .val (dat K (keyD x)) ∧ mget m x = some d ∧ Q (.val (dat K d)) ρ2) : ev (tDGet td ty) ρ Q := by
  refine ev_op (r := fun x y H Q => ∃ a v, x = V.ref a ∧ DGet H a y (some v) ∧ Q v H) (ev_mono h fun r1 ρ1 h1 => ev_mono h1 fun r2 ρ2 ⟨m, x, d, hd, e2, hm, q⟩ => ?_)
  intro σ H0 H G v1 v2 f1 f2 k S e1 e2' _ _ _ hk
  subst e2
  obtain rfl := key_da e2'.1
  obtain ⟨a, vs, rfl, ha, hvs⟩ := hd.get S e1
  rcases hvs.get x with ⟨_, e⟩ | ⟨v, d', e3, e4, hda⟩
  · rw [hm] at e; cases e
  · rw [hm] at e4
    cases e4
    refine ⟨a, v, rfl, ?_, hk _ _ _ _ _ _ q (post_pure (S.frame fun _ => .inl) hda)⟩
    rw [← e3]
    exact DGet.k ha
theorem ev_din (h : ev ty ρ fun r2 ρ2 => ev td ρ2 fun r1 ρ1 => ∃ m x, rdD K ρ1 r1 m ∧ r2 = .val (dat K (keyD x)) ∧ Q (.val (dat K (.bool (mget m x).isSome))) ρ1) : ev (tDIn ty td) ρ Q := by
  refine ev_op (r := fun y x H Q => ∃ a o, x = V.ref a ∧ DGet H a y o ∧ Q (.bl o.isSome) H) (ev_mono h fun r1 ρ1 h1 => ev_mono h1 fun r2 ρ2 ⟨m, x, hd, e2, q⟩ => ?_)
  intro σ H0 H G v1 v2 f1 f2 k S e1 e2' _ _ _ hk
  subst e2
  obtain rfl := key_da e1.1
  obtain ⟨a, vs, rfl, ha, hvs⟩ := hd.get S e2'
  refine ⟨a, valV vs x, rfl, DGet.k ha, ?_⟩
  have : (valV vs x).isSome = (mget m x).isSome := by
    rcases hvs.get x with ⟨e3, e4⟩ | ⟨v, d', e3, e4, _⟩ <;> rw [e3, e4] <;> rfl
  rw [this]
  exact hk _ _ _ _ _ _ q (post_sc S (fun _ => .inl) (.bl _))
theorem ev_dnotin (h : ev ty ρ fun r2 ρ2 => ev td ρ2 fun r1 ρ1 => ∃ m x, rdD K ρ1 r1 m ∧ r2 = .val (dat K (keyD x)) ∧ Q (.val (dat K (.bool (!(mget m x).isSome)))) ρ1) : ev (tDNotIn ty td) ρ Q := by
  refine ev_op (r := fun y x H Q => ∃ a o, x = V.ref a ∧ DGet H a y o ∧ Q (.bl (!o.isSome)) H) (ev_mono h fun r1 ρ1 h1 => ev_mono h1 fun r2 ρ2 ⟨m, x, hd, e2, q⟩ => ?_)
  intro σ H0 H G v1 v2 f1 f2 k S e1 e2' _ _ _ hk
  subst e2
  obtain rfl := key_da e1.1
  obtain ⟨a, vs, rfl, ha, hvs⟩ := hd.get S e2'
  refine ⟨a, valV vs x, rfl, DGet.k ha, ?_⟩
  have : (valV vs x).isSome = (mget m x).isSome := by
    rcases hvs.get x with ⟨e3, e4⟩ | ⟨v, d', e3, e4, _⟩ <;> rw [e3, e4] <;> rfl
  rw [this]
  exact hk _ _ _ _ _ _ q (post_sc S (fun _ => .inl) (.bl _))
/-- d.get(k, e), the default a datum -/
theorem ev_dget2 (h : ev td ρ fun r1 ρ1 => (∃ m, rdD K ρ1 r1 m) ∧ ev ty ρ1 fun r2 ρ2 => ∃ x, r2 = .val (dat K (keyD x)) ∧ ev tb ρ2 fun r3 ρ3 => ∃ m d ρ4, asD K ρ3 r3 d ρ4 ∧ rdD K ρ4 r1 m ∧ Q (.val (dat K ((mget m x).getD d))) ρ4) : ev (tDGet2 td ty tb) ρ Q := by
  intro σ H0 H G k S hk
  refine h σ H0 H G _ S fun r1 ρ1 v1 f1 H1 H1' ⟨⟨m0, hm0⟩, h1⟩ p1 => ?_
  obtain ⟨a0, vs0, e0, ha0, hvs0⟩ := hm0.get p1.sat p1.rt
  refine ⟨a0, e0, .inl ⟨vs0, .inl ha0⟩, ?_⟩
  refine h1 σ H1 H1' (fun a => G a ∨ f1 a) _ p1.sat fun r2 ρ2 v2 f2 H2 H2' ⟨x, ex, h2⟩ p2 => ?_
  subst ex
  obtain rfl := key_da p2.rt.1
  have rt1 : RtH r1 σ H2 H2' v1 f1 := p1.rt.loc p2.ext.s0 fun a ha => ⟨p2.ext.fr a (.inr ha), (p2.sat.fr a (.inl (.inr ha))).2⟩
  refine h2 σ H2 H2' (fun a => G a ∨ f1 a) _ (p2.sat.frame fun _ => .inl) fun r3 ρ3 v3 f3 H3 H3' ⟨m, d, ρ4, ha, hm, q⟩ p3 => ?_
  obtain ⟨H4, s4, hda, S4⟩ := ha.go p3.sat p3.rt p3.dis
  have rt2 : RtH r1 σ H4 H3' v1 f1 := rt1.loc (p3.ext.s0.trans s4) fun a ha => ⟨p3.ext.fr a (.inr ha), (S4.fr a (.inr ha)).2⟩
  obtain ⟨a, vs, e, ha', hvs⟩ := hm.get S4 rt2
  obtain rfl : a0 = a := by rw [e0] at e; exact V.ref.inj e
  refine ⟨valV vs x, DGet.k ha', ?_⟩
  have S5 := S4.frame (G' := G) fun _ => .inl
  have e5 : Ext G H0 H H4 H3' := ⟨((p1.ext.s0.trans p2.ext.s0).trans p3.ext.s0).trans s4, fun b hb => ((p3.ext.fr b (.inl hb)).trans (p2.ext.fr b (.inl hb))).trans (p1.ext.fr b hb)⟩
  rcases hvs.get x with ⟨e3, e4⟩ | ⟨v, d', e3, e4, hd'⟩
  · rw [e3]
    rw [e4] at q
    exact hk _ _ _ _ _ _ q (post_ext e5 (post_pure S5 hda))
  · rw [e3]
    rw [e4] at q
    exact hk _ _ _ _ _ _ q (post_ext e5 (post_pure S5 hd'))
/-- d.get(k) -/
theorem ev_dget1 (h : ev td ρ fun r1 ρ1 => (∃ m, rdD K ρ1 r1 m) ∧ ev ty ρ1 fun r2 ρ2 => ∃ m x, r2 = .val (dat K (keyD x)) ∧ rdD K ρ2 r1 m ∧ Q (.val (dat K ((mget m x).getD .none))) ρ2) : ev (tDGet1 td ty) ρ Q := by
  intro σ H0 H G k S hk
  refine h σ H0 H G _ S fun r1 ρ1 v1 f1 H1 H1' ⟨⟨m0, hm0⟩, h1⟩ p1 => ?_
  obtain ⟨a0, vs0, e0, ha0, hvs0⟩ := hm0.get p1.sat p1.rt
  refine ⟨a0, e0, .inl ⟨vs0, .inl ha0⟩, ?_⟩
  refine h1 σ H1 H1' (fun a => G a ∨ f1 a) _ p1.sat fun r2 ρ2 v2 f2 H2 H2' ⟨m, x, ex, hm, q⟩ p2 => ?_
  subst ex
  obtain rfl := key_da p2.rt.1
  have rt1 : RtH r1 σ H2 H2' v1 f1 := p1.rt.loc p2.ext.s0 fun a ha => ⟨p2.ext.fr a (.inr ha), (p2.sat.fr a (.inl (.inr ha))).2⟩
  obtain ⟨a, vs, e, ha', hvs⟩ := hm.get p2.sat rt1
  obtain rfl : a0 = a := by rw [e0] at e; exact V.ref.inj e
  refine ⟨valV vs x, DGet.k ha', ?_⟩
  have S5 := p2.sat.frame (G' := G) fun _ h => .inl (.inl h)
  have e5 : Ext G H0 H H2 H2' := p1.ext.trans (p2.ext.weak fun _ => .inl)
  rcases hvs.get x with ⟨e3, e4⟩ | ⟨v, d', e3, e4, hd'⟩
  · rw [e3]
    rw [e4] at q
    exact hk _ _ _ _ _ _ q (post_ext e5 (post_pure S5 .non))
  · rw [e3]
    rw [e4] at q
    exact hk _ _ _ _ _ _ q (post_ext e5 (post_pure S5 hd'))
theorem mut_dict {i : Nat} {m n : List (Key × PyData)} {σ : L2.St} {H0 H : Hp} {G : FP} {v : V} (e : ρ[i]? = some (some (dk K m))) (S : Sat ρ σ H0 H G) (hv : σ[i]? = some (some v)) : ∃ a vs, v = .ref a ∧ H a = some (.dK vs) ∧ DkAll K H0 vs m ∧ ¬ G a ∧
    ∀ ws : List (Key × V), DkAll K H0 ws n → Ext G H0 H H0 (upd H a (.dK ws)) ∧ Sat (ρ.set i (some (dk K n))) σ H0 (upd H a (.dK ws)) G := by
  obtain ⟨w, f, ew, ⟨a, xs, rfl, hf, h1, h2, h3⟩, d, S2⟩ := S.take e
  obtain rfl : V.ref a = v := Option.some.inj (Option.some.inj (ew.symm.trans hv))
  have hGa : ¬ G a := d a ((hf a).mpr rfl)
  refine ⟨a, xs, rfl, h2, h3, hGa, fun ys hy => ⟨⟨Same.refl _, fun b hb => upd_ne fun z => hGa (z ▸ hb)⟩, ?_⟩⟩
  have S3 : Sat (ρ.set i none) σ H0 (upd H a (.dK ys)) fun b => G b ∨ f b := S2.mut (fun b hb => upd_ne fun z => hb ((hf b).mpr z)) fun b hb => by
    rw [(hf b).mp hb, upd_same]
    exact Option.some_ne_none _
  exact S3.back (R := dk K n) hv ⟨a, ys, rfl, hf, h1, upd_same, hy⟩ d
/-- d[k] = e -/
theorem ex_dput {i : Nat} (h : ev tv ρ fun r ρ1 => ∃ d ρ2, asD K ρ1 r d ρ2 ∧ (∃ R, ρ2[i]? = some (some R)) ∧ ev ty ρ2 fun r2 ρ3 => ∃ m x, r2 = .val (dat K (keyD x)) ∧ ρ3[i]? = some (some (dk K m)) ∧ m.length < sizeLine ∧ Φ.nx (ρ3.set i (some (dk K (mput m x d))))) : ex np (sDPut (tVar i) ty tv) ρ Φ := by
  intro σ H0 H G D S kn _ _ _
  refine h σ H0 H G _ S fun r ρ1 v f H1 H1' ⟨d, ρ2, ha, ⟨R, hR⟩, h1⟩ p1 => ?_
  obtain ⟨H2, s2, hda, S2⟩ := ha.go p1.sat p1.rt p1.dis
  obtain ⟨w, _, ew, _⟩ := S2.get hR
  refine ⟨w, ew, h1 σ H2 H1' G _ S2 fun r2 ρ3 v2 f2 H3 H3' ⟨m, x, e2, hm, hl, q⟩ p3 => ?_⟩
  subst e2
  obtain rfl := key_da p3.rt.1
  have S3 := p3.sat.frame (G' := G) fun _ => .inl
  obtain ⟨a, vs, rfl, h2, h3, hG, fin⟩ := mut_dict (n := mput m x d) hm S3 ew
  obtain ⟨x1, x2⟩ := fin _ (h3.put (Da.mono p3.ext.s0 _ _ hda))
  refine ⟨a, _, rfl, DPut.k h2 (by rw [h3.len]; exact hl), kn _ σ H3 _ q rfl ⟨(p1.ext.s0.trans s2).trans p3.ext.s0, fun b hb => ?_⟩ x2⟩
  rw [x1.fr b hb, p3.ext.fr b hb, p1.ext.fr b hb]
/-- len(d) -/
theorem un_lenD {m : List (Key × PyData)} (h : rdD K ρ r1 m) (q : Q (.val (dat K (.int m.length))) ρ) : unR (fun v H k => ∃ a kvs, [v] = [V.ref a] ∧ H a = some (.dK kvs) ∧ k (.int kvs.length) H) r1 ρ Q := by
  intro σ H0 H G v1 f1 k S e1 _ hk
  obtain ⟨a, vs, rfl, ha, hvs⟩ := h.get S e1
  refine ⟨a, vs, rfl, ha, ?_⟩
  rw [hvs.len]
  exact hk _ _ _ _ _ _ q (post_sc S (fun _ => .inl) (.int _))
/-- list(d) -/
theorem un_listK {m : List (Key × PyData)} (h : rdD K ρ r1 m) (q : Q (.val (lo K (m.map fun kv => keyD kv.1))) ρ) : unR (fun v H k => rListD [v] H k) r1 ρ Q := by
  intro σ H0 H G v1 f1 k S e1 _ hk
  obtain ⟨a, vs, rfl, ha, hvs⟩ := h.get S e1
  have hkeys : DaAll K H0 (vs.map fun kv => kV kv.1) (m.map fun kv => keyD kv.1) := by
    have : ∀ {vs : List (Key × V)} {m : List (Key × PyData)}, DkAll K H0 vs m → DaAll K H0 (vs.map fun kv => kV kv.1) (m.map fun kv => keyD kv.1) := by
      intro vs m h
      induction h with
      | nil => exact .nil
      | cons h t ih => exact .cons (da_key _) ih
    exact this hvs
  refine ⟨a, vs, rfl, ha, fun l hl => ?_⟩
  exact hk _ _ _ _ _ _ q (post_own (S.frame fun _ => .inl) hl hkeys)
end
end ML

namespace ML
open PySem PySem.Spec PyProof.Rows L2 KS GL LB
/-! ### the deck -/
def deck (n : Nat) : Res := ⟨fun H0 H v f => ∃ d c, v = .ref d ∧ (∀ a, f a ↔ a = d ∨ a = c) ∧ H0 d = none ∧ H0 c = none ∧ Dk H d c n,
  fun {H0 H0' H H' v f} ⟨d, c, e, hf, h1, h2, ⟨⟨ns, m, t, a1, a2, a3⟩⟩⟩ s hk => ⟨d, c, e, hf, (hk d ((hf d).mpr (.inl rfl))).2, (hk c ((hf c).mpr (.inr rfl))).2, ⟨⟨ns, m, t, by rw [(hk d ((hf d).mpr (.inl rfl))).1]; exact a1, by rw [(hk c ((hf c).mpr (.inr rfl))).1]; exact a2, a3⟩⟩⟩,
  fun {H0 H v f b} ⟨d, c, e, hf, h1, h2, ⟨⟨ns, m, t, a1, a2, a3⟩⟩⟩ hb => by
    rcases (hf b).mp hb with rfl | rfl
    · exact ⟨by rw [a1]; exact Option.some_ne_none _, h1⟩
    · exact ⟨by rw [a2]; exact Option.some_ne_none _, h2⟩⟩
def scriptP (K : PySem.W.Frag) (ns : List Int) : Pd := ⟨fun H v => ∃ a, v = .ref a ∧ SqL K H a (ns.map V.int), fun {H H' v} ⟨a, e, h⟩ s => ⟨a, e, s.seq h⟩⟩
def drawM (K : PySem.W.Frag) : MSp := fun Rs q => ∃ (n : Nat) (many : Int), Rs = [deck n, dat K (.int many)] ∧ 1 ≤ many ∧ many < 2 ^ 30 ∧ n < 2 ^ 40 ∧ ∀ k : Int, 0 ≤ k → k < many → q (dat K (.int k)) [deck (n + 1)]
def pickM (K : PySem.W.Frag) : MSp := fun Rs q => ∃ (n : Nat) (ds : List PyData) (d0 : PyData), Rs = [deck n, dat K d0] ∧ (d0 = .list ds ∨ d0 = .tuple ds) ∧ 1 ≤ ds.length ∧ ds.length < 2 ^ 30 ∧ n < 2 ^ 40 ∧ ∀ d ∈ ds, q (dat K d) [deck (n + 1)]
def deckM (K : PySem.W.Frag) : MSp := fun Rs q => ∃ ns, Rs = [pu (scriptP K ns)] ∧ q (deck 0) []
def lawM (K : PySem.W.Frag) : MSp := fun Rs q => ∃ ns, Rs = [pu (scriptP K ns)] ∧ ns.length ≤ 63 ∧ q (dat K (.bool true)) []
section
variable {P : Program} {w : World} {K : PySem.W.Frag} {mg : Str → Option Value} {base : Heap} {CX : CXT} {k : Nat} {f : Addr} {fd : FuncData} {ps : List Str} {sp sp' : Sp}
/-- a promise that asks more -/
theorem _root_.GL.FnG.conv (F : FnG P w K mg base CX k f fd ps sp) (h : ∀ vs H Q E, sp' vs H Q E → sp vs H Q E) : FnG P w K mg base CX k f fd ps sp' := ⟨fun vs H Q E z => F.len vs H Q E (h _ _ _ _ z), fun A outer s H args us vs Q E hr e0 hb r z => F.run A outer s H args us vs Q E hr e0 hb r (h _ _ _ _ z)⟩
/-- the def named x stands and keeps its promise -/
structure HasM (P : Program) (w : World) (K : PySem.W.Frag) (mg : Str → Option Value) (base : Heap) (x : Str) (k : Nat) (ps : List Str) (sp : Sp) : Prop where
  ex : ∃ f fd, FnG P w K mg base CX0 k f fd ps sp ∧ mg x = some (.ref f) ∧ PySem.W.keepIn K (.ref f) = true ∧ Binds K fd ps []
theorem HasM.of {x : Str} (h : Has P w K mg base x k ps sp) (hc : ∀ vs H Q E, sp' vs H Q E → sp vs H Q E) : HasM P w K mg base x k ps sp' := by
  obtain ⟨f, fd, F, r⟩ := h.ex
  exact ⟨f, fd, (FnG.of F).conv hc, r⟩
theorem HasM.conv {x : Str} (h : HasM P w K mg base x k ps sp) (hc : ∀ vs H Q E, sp' vs H Q E → sp vs H Q E) : HasM P w K mg base x k ps sp' := by
  obtain ⟨f, fd, F, r⟩ := h.ex
  exact ⟨f, fd, F.conv hc, r⟩
theorem pe_hg {X : Cx} {x : Str} {e : Expr} {es : List Expr} {t : TA} {p pos : Pos} (h : HasM X.prog X.w X.K X.mg X.base x k ps sp) (hr : RoomG k X.A) (hg : Gl X x) (ha : PA X (e :: es) t) (hdb : (x == ("__debug__" : Str)) = false := by decide)
    (he : starEach (e :: es) X.env = (false, eval e X.env) :: starEach es X.env := by rfl) (hpl : (backTo pos (starEach es X.env)).any (·.1) = false := by rfl) : PE X (.Call (.Name x p) (e :: es) [] pos) (tCall sp [] E0 t) := by
  obtain ⟨f, fd, F, hm, hk, hb⟩ := h.ex
  exact pe_callG F hr hg hm hk hb .nil pass0 ha hdb he hpl
end
/-- two arguments, the first a thing of one's own -/
theorem sat_two {R : Res} {Q : Pd} {vs : List V} {H0 H : Hp} {G : FP} (S : Sat [some R, some (pu Q)] (vs.map some) H0 H G) : ∃ v w f, vs = [v, w] ∧ R.holds H0 H v f ∧ (∀ a, f a → ¬ G a) ∧ Q.p H0 w := by
  have hl := S.len
  obtain ⟨v, f, e1, r, d⟩ := S.get (i := 0) (R := R) rfl
  obtain ⟨w, g, e2, q, _⟩ := S.get (i := 1) (R := pu Q) rfl
  match vs, hl with
  | [v', w'], _ =>
    obtain rfl : v' = v := Option.some.inj (Option.some.inj e1)
    obtain rfl : w' = w := Option.some.inj (Option.some.inj e2)
    exact ⟨v', w', f, rfl, r, d, q.1⟩
/-- all but the deck -/
def allBut (H : Hp) (d c : Addr) : Hp := fun a => if a = d ∨ a = c then none else H a
theorem allBut_bk {H : Hp} {d c : Addr} {n : Nat} (D : Dk H d c n) : Bk (allBut H d c) H d c n := ⟨fun a u e => by
  unfold allBut at e
  split at e
  · cases e
  · exact e, by simp [allBut], by simp [allBut], D⟩
theorem allBut_same {H H' : Hp} {d c : Addr} (s : Same (allBut H d c) H') {a : Addr} (h1 : a ≠ d) (h2 : a ≠ c) (hl : H a ≠ none) : H' a = H a := by
  cases e : H a with
  | none => exact absurd e hl
  | some u => exact s a u (by unfold allBut; rw [if_neg (by simp [h1, h2])]; exact e)
theorem sat_deck {H0 H H' : Hp} {G : FP} {d c : Addr} {m : Nat} {R : Res} (S : Sat [some R] (([V.ref d] : List V).map some) H0 H G) (hR : R.holds H0 H (.ref d) fun a => a = d ∨ a = c) (dis : ∀ a, (a = d ∨ a = c) → ¬ G a) (h1 : H0 d = none) (h2 : H0 c = none) (B : Bk (allBut H d c) H' d c m) :
    Ext G H0 H H0 H' ∧ Sat [some (deck m)] (([V.ref d] : List V).map some) H0 H' fun a => G a ∨ False := by
  have hG : ∀ a, G a → H' a = H a := fun a ha => allBut_same B.same (fun e => dis a (.inl e) ha) (fun e => dis a (.inr e) ha) (S.fr a ha).1
  refine ⟨⟨Same.refl _, hG⟩, fun b u e => ?_, rfl, fun a ha => ?_, fun j => if j = 0 then fun a => a = d ∨ a = c else fun _ => False, fun i R' hR' => ?_, fun i j a ha hb => ?_, fun i a ha hg => ?_, fun i a ha => ?_⟩
  · have e2 := S.same b u e
    rw [allBut_same B.same (fun z => by rw [z, h1] at e; cases e) (fun z => by rw [z, h2] at e; cases e) (by rw [e2]; exact Option.some_ne_none _)]
    exact e2
  · have ha := ha.resolve_right id
    refine ⟨?_, (S.fr a ha).2⟩
    rw [hG a ha]
    exact (S.fr a ha).1
  · cases i with
    | zero =>
      obtain rfl : deck m = R' := Option.some.inj (Option.some.inj hR')
      exact ⟨.ref d, rfl, d, c, rfl, fun _ => Iff.rfl, h1, h2, B.dk⟩
    | succ i => cases hR'
  · by_cases hi : i = 0 <;> by_cases hj : j = 0
    · rw [hi, hj]
    · simp only [hj, if_false] at hb
    · simp only [hi, if_false] at ha
    · simp only [hi, if_false] at ha
  · by_cases hi : i = 0
    · simp only [hi, if_true] at ha
      exact dis a ha (hg.resolve_right id)
    · simp only [hi, if_false] at ha
  · by_cases hi : i = 0
    · subst hi
      exact ⟨_, rfl⟩
    · simp only [hi, if_false] at ha
section
variable {K : PySem.W.Frag}
theorem draw_conv (vs : List V) (H : Hp) (Q : VK) (E : XK) (h : spOf 1 (drawM K) vs H Q E) : spDraw vs H Q E := by
  obtain ⟨Rs, H0, G, q, S, ⟨n, many, rfl, h1, h2, h3, hq⟩, fin⟩ := h
  obtain ⟨v, w, f, rfl, ⟨d, c, rfl, hf, z1, z2, D⟩, dis, hw⟩ := sat_two S
  cases hw
  have S1 : Sat [some (deck n)] (([V.ref d] : List V).map some) H0 H G := S.takeN 1
  have dis' : ∀ a, (a = d ∨ a = c) → ¬ G a := fun a ha => dis a ((hf a).mpr ha)
  refine ⟨allBut H d c, d, c, n, many, rfl, allBut_bk D, h1, h2, h3, fun k H' k0 k1 B => ?_⟩
  obtain ⟨x1, x2⟩ := sat_deck S1 ⟨d, c, rfl, fun _ => Iff.rfl, z1, z2, D⟩ dis' z1 z2 B
  exact fin _ _ (hq k k0 k1) _ (fun _ => False) H0 H' x1 ⟨.int k, fun _ h => h⟩ (fun _ h => h.elim) x2
theorem da_mem {H : Hp} : ∀ {xs : List V} {ds : List PyData} {v : V}, DaAll K H xs ds → v ∈ xs → ∃ d ∈ ds, Da K H v d
  | _, _, _, .nil, h => by cases h
  | x :: xs, d :: ds, v, .cons h t, hv => by
    rcases List.mem_cons.mp hv with rfl | hv
    · exact ⟨d, List.mem_cons_self, h⟩
    · obtain ⟨e, he, hd⟩ := da_mem t hv
      exact ⟨e, List.mem_cons_of_mem _ he, hd⟩
theorem pick_conv (vs : List V) (H : Hp) (Q : VK) (E : XK) (h : spOf 1 (pickM K) vs H Q E) : spPick K vs H Q E := by
  obtain ⟨Rs, H0, G, q, S, ⟨n, ds, d0, rfl, h0, h1, h2, h3, hq⟩, fin⟩ := h
  obtain ⟨v, w, f, rfl, ⟨d, c, rfl, hf, z1, z2, D⟩, dis, hw⟩ := sat_two S
  have S1 : Sat [some (deck n)] (([V.ref d] : List V).map some) H0 H G := S.takeN 1
  have dis' : ∀ a, (a = d ∨ a = c) → ¬ G a := fun a ha => dis a ((hf a).mpr ha)
  have sub : Same H0 (allBut H d c) := fun b u e => by
    unfold allBut
    rw [if_neg]
    · exact S.same b u e
    · rintro (z | z)
      · rw [z, z1] at e; cases e
      · rw [z, z2] at e; cases e
  have seq : ∃ a xs, w = .ref a ∧ (SqL K H0 a xs ∨ SqT K H0 a xs) ∧ DaAll K H0 xs ds := by
    rcases h0 with rfl | rfl
    · cases hw with
      | lst a1 a2 => exact ⟨_, _, rfl, .inl (.inl (.inl a1)), a2⟩
    · cases hw with
      | tup a1 a2 => exact ⟨_, _, rfl, .inr a1, a2⟩
  obtain ⟨a, xs, rfl, hs, hx⟩ := seq
  refine ⟨allBut H d c, d, c, a, n, xs, rfl, allBut_bk D, hs.imp (fun z => sub.seq z) (fun z => sameT sub z), by rw [hx.len]; exact h1, by rw [hx.len]; exact h2, h3, fun v H' hv B => ?_⟩
  obtain ⟨e, he, hd⟩ := da_mem hx hv
  obtain ⟨x1, x2⟩ := sat_deck S1 ⟨d, c, rfl, fun _ => Iff.rfl, z1, z2, D⟩ dis' z1 z2 B
  exact fin _ _ (hq e he) _ (fun _ => False) H0 H' x1 ⟨hd, fun _ h => h⟩ (fun _ h => h.elim) x2
theorem sat_one {Q : Pd} {vs : List V} {H0 H : Hp} {G : FP} (S : Sat [some (pu Q)] (vs.map some) H0 H G) : ∃ v, vs = [v] ∧ Q.p H0 v := by
  have hl := S.len
  obtain ⟨v, f, e1, r, d⟩ := S.get (i := 0) (R := pu Q) rfl
  match vs, hl with
  | [v'], _ =>
    obtain rfl : v' = v := Option.some.inj (Option.some.inj e1)
    exact ⟨v', rfl, r.1⟩
theorem sat_nil {H0 H : Hp} {G : FP} (s : Same H0 H) (h : ∀ a, G a → H a ≠ none ∧ H0 a = none) : Sat [] [] H0 H G := ⟨s, rfl, h, fun _ _ => False, fun i R hR => by simp at hR, fun _ _ _ h => h.elim, fun _ _ h => h.elim, fun _ _ h => h.elim⟩
theorem deck_conv (vs : List V) (H : Hp) (Q : VK) (E : XK) (h : spOf 0 (deckM K) vs H Q E) : spDeck K vs H Q E := by
  obtain ⟨Rs, H0, G, q, S, ⟨ns, rfl, hq⟩, fin⟩ := h
  obtain ⟨v, rfl, a, rfl, hs⟩ := sat_one S
  refine ⟨a, ns, rfl, S.same.seq hs, fun d c H' B => ?_⟩
  obtain ⟨⟨ms, m, t, a1, a2, _⟩⟩ := id B.dk
  have nd : ¬ G d := fun e => (S.fr d e).1 B.hd
  have nc : ¬ G c := fun e => (S.fr c e).1 B.hc
  have hG : ∀ a, G a → H' a = H a := fun a ha => by
    cases e : H a with
    | none => exact absurd e (S.fr a ha).1
    | some u => exact B.same a u e
  have R0 : (deck 0).holds H0 H' (.ref d) fun a => a = d ∨ a = c := ⟨d, c, rfl, fun _ => Iff.rfl, S.same.free B.hd, S.same.free B.hc, B.dk⟩
  refine fin _ _ hq _ (fun a => a = d ∨ a = c) H0 H' ⟨Same.refl _, hG⟩ R0 (fun a ha => ha.elim (fun e => e ▸ nd) fun e => e ▸ nc) (sat_nil (S.same.trans B.same) fun a ha => ?_)
  rcases ha with ha | ha
  · rw [hG a ha]
    exact S.fr a ha
  · exact Res.live _ R0 ha
/-- the law's own promise -/
def spLaw0 (K : PySem.W.Frag) : Sp := fun vs H Q _ => ∃ (a : Addr) (ns : List Int), vs = [.ref a] ∧ SqL K H a (ns.map V.int) ∧ ns.length ≤ 63 ∧ ∀ H', Q (.bl true) H'
theorem law_conv (vs : List V) (H : Hp) (Q : VK) (E : XK) (h : spLaw0 K vs H Q E) : spOf 0 (lawM K) vs H Q E := by
  obtain ⟨a, ns, rfl, hs, hl, hq⟩ := h
  refine ⟨[pu (scriptP K ns)], H, fun _ => False, fun R Rs' => R = dat K (.bool true) ∧ Rs' = [], ⟨Same.refl _, rfl, fun _ h => h.elim, fun _ _ => False, fun i R hR => ?_, fun _ _ _ h => h.elim, fun _ _ h => h.elim, fun _ _ h => h.elim⟩, ⟨ns, rfl, hl, rfl, rfl⟩, fun R Rs' ⟨e1, e2⟩ v f H0' H' _ hr _ _ => ?_⟩
  · cases i with
    | zero =>
      obtain rfl : pu (scriptP K ns) = R := Option.some.inj (Option.some.inj hR)
      exact ⟨.ref a, rfl, ⟨a, rfl, hs⟩, fun _ h => h⟩
    | succ i => simp at hR
  · subst e1
    have hv := hr.1
    cases hv
    exact hq H'
end
end ML

namespace ML
open PySem PySem.Spec PyProof.Rows L2 KS GL LB
section
variable {K : PySem.W.Frag} {ρ : MS} {Q : Rt → MS → Prop} {Qb : Bool → MS → Prop} {ta tb te tc td ty tv : TE} {t u : TT} {np : Nat} {ts us : TS} {n b c : MS → Prop} {r : Rt → MS → Prop}
/-! ### statements, their ends apart -/
theorem x_seq (h : ex np ts ρ ⟨fun ρ1 => ex np us ρ1 ⟨n, r, b, c⟩, r, b, c⟩) : ex np (tSeq ts us) ρ ⟨n, r, b, c⟩ := ex_seq h
theorem x_next (q : n ρ) : ex np tNext ρ ⟨n, r, b, c⟩ := ex_next q
theorem x_break (q : b ρ) : ex np tBreak ρ ⟨n, r, b, c⟩ := ex_break q
theorem x_cont (q : c ρ) : ex np tCont ρ ⟨n, r, b, c⟩ := ex_cont q
theorem x_drop (h : ev te ρ fun _ ρ1 => n ρ1) : ex np (tDrop te) ρ ⟨n, r, b, c⟩ := ex_drop h
theorem x_ret (h : ev te ρ r) : ex np (tRet te) ρ ⟨n, r, b, c⟩ := ex_ret h
theorem x_retN (h : r (.val (dat K .none)) ρ) : ex np tRetN ρ ⟨n, r, b, c⟩ := ex_retN h
theorem x_asg {i : Nat} (h : ev te ρ fun r ρ1 => tg [i] (gName i) r ρ1 n) (hl : np ≤ i) : ex np (tAsg te (gName i)) ρ ⟨n, r, b, c⟩ := ex_asg h fun j hj => by rw [List.mem_singleton.mp hj]; exact hl
theorem x_asgT {l : List Nat} {m : Nat} {g : TGs} (h : ev te ρ fun r ρ1 => tg l (gTup K m g) r ρ1 n) (hl : ∀ i ∈ l, np ≤ i) : ex np (tAsg te (gTup K m g)) ρ ⟨n, r, b, c⟩ := ex_asg h hl
theorem x_asgS {te' to ti : TE} {t : TSet} (h : ev te ρ fun r ρ1 => tg [] (gSub to ti t) r ρ1 n) : ex np (tAsg te (gSub to ti t)) ρ ⟨n, r, b, c⟩ := ex_asg h fun i hi => by cases hi
theorem x_if (h : evT t ρ fun b' ρ1 => (b' = true → ex np ts ρ1 ⟨n, r, b, c⟩) ∧ (b' = false → ex np us ρ1 ⟨n, r, b, c⟩)) : ex np (tIfS t ts us) ρ ⟨n, r, b, c⟩ := ex_if h
theorem x_par {i j : Nat} {ta : TA} (hij : i ≠ j) (hi : np ≤ i) (hj : np ≤ j) (h : evA ta ρ fun rs ρ1 => ∃ r1 r2, rs = [r1, r2] ∧ ∃ R1 R2, r1 = .val R1 ∧ r2 = .val R2 ∧ n ((ρ1.set i (some R1)).set j (some R2))) : ex np (tPar i j ta) ρ ⟨n, r, b, c⟩ := ex_par hij hi hj h
theorem x_for {wi : TI} {g : TG} (h : wk K wi ρ fun m item ρ1 => ∃ I : Nat → MS → Prop, I 0 ρ1 ∧ (∀ i ρ', i < m → I i ρ' → ∃ l, (∀ j ∈ l, np ≤ j) ∧ tg l g (.val (dat K (item i))) ρ' fun ρ2 => ex np ts ρ2 ⟨I (i + 1), r, n, I (i + 1)⟩) ∧ ∀ ρ', I m ρ' → n ρ') : ex np (tFor wi g ts) ρ ⟨n, r, b, c⟩ := ex_for (K := K) h
theorem x_while (I : Nat → MS → Prop) (h0 : ∃ m, I m ρ) (h : ∀ m ρ', I m ρ' → evT t ρ' fun b' ρ1 => (b' = true → ex np ts ρ1 ⟨fun ρ2 => ∃ m', m' < m ∧ I m' ρ2, r, n, fun ρ2 => ∃ m', m' < m ∧ I m' ρ2⟩) ∧ (b' = false → n ρ1)) : ex np (tWhile t ts) ρ ⟨n, r, b, c⟩ := ex_while I h0 h
theorem x_frz {i : Nat} {ds : List PyData} (h : ρ[i]? = some (some (lo K ds))) (q : ex np ts (ρ.set i (some (dat K (.list ds)))) ⟨n, r, b, c⟩) : ex np ts ρ ⟨n, r, b, c⟩ := ex_frz h q
theorem x_augI {i : Nat} {g : Int → Int → Int} {x : Int} (hi : np ≤ i) (h0 : ρ[i]? = some (some (dat K (.int x)))) (h : ev te ρ fun r ρ1 => ∃ m, r = .val (dat K (.int m)) ∧ n (ρ1.set i (some (dat K (.int (g x m)))))) : ex np (tAug i te (ipI g)) ρ ⟨n, r, b, c⟩ := ex_aug hi h0 h
theorem x_dput {i : Nat} (h : ev tv ρ fun r ρ1 => ∃ d ρ2, asD K ρ1 r d ρ2 ∧ (∃ R, ρ2[i]? = some (some R)) ∧ ev ty ρ2 fun r2 ρ3 => ∃ m x, r2 = .val (dat K (keyD x)) ∧ ρ3[i]? = some (some (dk K m)) ∧ m.length < sizeLine ∧ n (ρ3.set i (some (dk K (mput m x d))))) : ex np (sDPut (tVar i) ty tv) ρ ⟨n, r, b, c⟩ := ex_dput h
/-- the ends of a def's body, apart -/
theorem outF_eq {k : Res → List Res → Prop} : outF np K k = ⟨fun ρ' => ∃ Rs', retR np (.val (dat K .none)) ρ' (dat K .none) Rs' ∧ k (dat K .none) Rs', fun r ρ' => ∃ R Rs', retR np r ρ' R Rs' ∧ k R Rs', fun _ => False, fun _ => False⟩ := rfl
/-! ### arguments of calls -/
inductive asX (K : PySem.W.Frag) (ρ : MS) : Rt → Rt → MS → Prop
  | pure {P : Pd} : asX K ρ (.val (pu P)) (.val (pu P)) ρ
  | own {ds : List PyData} : asX K ρ (.val (lo K ds)) (.val (dat K (.list ds))) ρ
  | slot {i : Nat} {ds : List PyData} : ρ[i]? = some (some (lo K ds)) → asX K ρ (.at i) (.val (dat K (.list ds))) (ρ.set i (some (dat K (.list ds))))
  | keep {i : Nat} : asX K ρ (.at i) (.at i) ρ
theorem asX.go {r r' : Rt} {ρ' : MS} {σ : L2.St} {H0 H : Hp} {G : FP} {v : V} {f : FP} (h : asX K ρ r r' ρ') (S : Sat ρ σ H0 H fun a => G a ∨ f a) (hr : RtH r σ H0 H v f) (hd : ∀ a, f a → ¬ G a) : ∃ H0', Same H0 H0' ∧ RtH r' σ H0' H v (fun _ => False) ∧ Sat ρ' σ H0' H G := by
  cases h with
  | pure => exact ⟨H0, Same.refl _, ⟨hr.1, fun _ h => h⟩, S.frame fun _ => .inl⟩
  | keep => exact ⟨H0, Same.refl _, ⟨hr.1, fun _ h => h⟩, S.frame fun _ => .inl⟩
  | own =>
    obtain ⟨H0', s, h, S'⟩ := (asD.own (K := K) (ρ := ρ)).go S hr hd
    exact ⟨H0', s, ⟨h, fun _ h => h⟩, S'⟩
  | slot e =>
    obtain ⟨H0', s, h, S'⟩ := (asD.slot e).go S hr hd
    exact ⟨H0', s, ⟨h, fun _ h => h⟩, S'⟩
theorem evA_x {tr : TA} {Q : List Rt → MS → Prop} (h : ev ta ρ fun r ρ1 => ∃ r' ρ2, asX K ρ1 r r' ρ2 ∧ evA tr ρ2 fun rs ρ3 => Q (r' :: rs) ρ3) : evA (tCons ta tr) ρ Q := by
  intro σ H0 H G k S hk
  refine h σ H0 H G _ S fun r1 ρ1 v1 f1 H1 H1' ⟨r', ρ2, ha, h1⟩ p1 => ?_
  obtain ⟨H2, s2, hr2, S2⟩ := ha.go p1.sat p1.rt p1.dis
  refine h1 σ H2 H1' G _ S2 fun rs ρ3 vs f2 H3 H3' h3 p3 => ?_
  refine hk (r' :: rs) ρ3 (v1 :: vs) f2 H3 H3' h3 ⟨⟨(p1.ext.s0.trans s2).trans p3.ext.s0, fun a ha => (p3.ext.fr a ha).trans (p1.ext.fr a ha)⟩, ⟨v1, vs, fun _ => False, f2, rfl, hr2.loc p3.ext.s0 fun _ h => h.elim, p3.rt, fun a => ⟨.inr, fun h => h.resolve_left id⟩, fun _ h => h.elim⟩, p3.dis, p3.sat⟩
theorem len_le {ds : List PyData} (h : Nat.ble ds.length 100 = true) : ds.length ≤ sizeLine := Nat.le_trans (Nat.le_of_ble_eq_true h) (by decide)
theorem lt_line {n : Nat} (h : n ≤ 100000) : n < sizeLine := Nat.lt_of_le_of_lt h (by decide)
theorem le_line {n : Nat} (h : n ≤ 100000) : n ≤ sizeLine := Nat.le_of_lt (lt_line h)
end
end ML

/-! Rows as data. -/
namespace ML
open PySem L2 KS GL LB
open K24 (Row rowD rowV rowRefs RowsAt)
open PySem.Spec hiding Row
open PyProof.Rows hiding cnt
theorem perm_map_inv {α β : Type} {f : α → β} {l m : List β} (h : l.Perm m) : ∀ {xs : List α}, m = xs.map f → ∃ ys : List α, l = ys.map f ∧ ys.Perm xs := by
  induction h with
  | nil => exact fun {xs} e => ⟨[], rfl, by cases xs <;> first | exact .nil | cases e⟩
  | cons x _ ih =>
    intro xs e
    cases xs with
    | nil => cases e
    | cons y xs =>
      rw [List.map_cons] at e
      injection e with e1 e2
      obtain ⟨ys, h1, h2⟩ := ih e2
      exact ⟨y :: ys, by rw [List.map_cons, e1, h1], h2.cons y⟩
  | swap x y l =>
    intro xs e
    match xs, e with
    | a :: b :: xs, e =>
      rw [List.map_cons, List.map_cons] at e
      injection e with e1 e2
      injection e2 with e2 e3
      exact ⟨b :: a :: xs, by rw [List.map_cons, List.map_cons, e1, e2, e3], .swap a b xs⟩
  | trans _ _ ih1 ih2 =>
    intro xs e
    obtain ⟨ys, h1, h2⟩ := ih2 e
    obtain ⟨zs, h3, h4⟩ := ih1 h1
    exact ⟨zs, h3, h4.trans h2⟩
theorem rows_alike (R : List Row) : W.AllAlike (R.map rowD) := by
  intro d hd e he
  obtain ⟨r, _, rfl⟩ := List.mem_map.mp hd
  obtain ⟨q, _, rfl⟩ := List.mem_map.mp he
  unfold rowD
  simp [W.alike, W.alikeAll]
theorem rows_sortable (R : List Row) : W.Sortable (R.map rowD) := .inl fun d hd => by
  obtain ⟨r, _, rfl⟩ := List.mem_map.mp hd
  exact ⟨_, _, rfl⟩
theorem rows_dep (R : List Row) : ∀ d ∈ R.map rowD, d.depth ≤ 60 := fun d hd => by
  obtain ⟨r, _, rfl⟩ := List.mem_map.mp hd
  rw [K24.depth_row]
  decide
/-- rows' places -/
theorem unrow {K : PySem.W.Frag} {H : Hp} : ∀ {R : List Row} {vs : List V}, DaAll K H vs (R.map rowD) → ∃ rs : List (Addr × Row), vs = rowRefs rs ∧ rs.map (·.2) = R ∧ RowsAt K H rs
  | [], _, h => by cases h; exact ⟨[], rfl, rfl, fun _ h => by cases h⟩
  | r :: R, _, h => by
    rw [List.map_cons] at h
    cases h with
    | cons h1 h2 =>
      obtain ⟨rs, e1, e2, e3⟩ := unrow h2
      unfold rowD at h1
      cases h1 with
      | tup a1 a2 =>
        rename_i a xs
        obtain ⟨⟩ | ⟨b1, ⟨⟩ | ⟨b2, ⟨⟩ | ⟨b3, ⟨⟩⟩⟩⟩ := a2
        cases b1
        cases b2
        cases b3
        refine ⟨(a, r) :: rs, by rw [e1]; rfl, by rw [List.map_cons, e2], fun z hz => ?_⟩
        rcases List.mem_cons.mp hz with rfl | hz
        · exact a1
        · exact e3 z hz
end ML

/-! Cycles in a list of edges: by taking away what leads nowhere, and by leads that are doubled. Plain Lean. -/
namespace K24m
abbrev Edges := List (Int × Int)
inductive Path (E : Edges) : Int → Int → Prop
  | one {x y : Int} : (x, y) ∈ E → Path E x y
  | cons {x y z : Int} : (x, y) ∈ E → Path E y z → Path E x z
theorem Path.trans {E : Edges} {x y z : Int} (h : Path E x y) (k : Path E y z) : Path E x z := by
  induction h with
  | one e => exact .cons e k
  | cons e _ ih => exact .cons e (ih k)
def Cyc (E : Edges) : Prop := ∃ x, Path E x x

/-! ### a finite set in which everybody has a successor -/
inductive Tr (R : Int → Int → Prop) : Int → Int → Prop
  | one {x y : Int} : R x y → Tr R x y
  | cons {x y z : Int} : R x y → Tr R y z → Tr R x z
theorem Tr.trans {R : Int → Int → Prop} {x y z : Int} (h : Tr R x y) (k : Tr R y z) : Tr R x z := by
  induction h with
  | one e => exact .cons e k
  | cons e _ ih => exact .cons e (ih k)
theorem Tr.map {R S : Int → Int → Prop} {x y : Int} (h : Tr R x y) (k : ∀ a b, R a b → Tr S a b) : Tr S x y := by
  induction h with
  | one e => exact k _ _ e
  | cons e _ ih => exact (k _ _ e).trans ih
theorem round_of : ∀ (n : Nat) (l : List Int) (R : Int → Int → Prop), l.length ≤ n → l ≠ [] → (∀ x ∈ l, ∃ y ∈ l, R x y) → ∃ x, Tr R x x
  | 0, l, R, hn, hne, _ => absurd (List.eq_nil_of_length_eq_zero (Nat.le_zero.mp hn)) hne
  | n + 1, l, R, hn, hne, h => by
    obtain ⟨x, hx⟩ := List.exists_mem_of_ne_nil l hne
    by_cases hc : R x x
    · exact ⟨x, .one hc⟩
    obtain ⟨u, hu, hxu⟩ := h x hx
    have hux : u ≠ x := fun e => hc (e ▸ hxu)
    have hu' : u ∈ l.filter (fun y => decide (y ≠ x)) := List.mem_filter.mpr ⟨hu, decide_eq_true hux⟩
    have hlen : (l.filter (fun y => decide (y ≠ x))).length < l.length := by
      have h1 := List.length_filter_le (fun y => decide (y ≠ x)) l
      rcases Nat.lt_or_ge (l.filter (fun y => decide (y ≠ x))).length l.length with z | z
      · exact z
      · have e : (l.filter (fun y => decide (y ≠ x))).length = l.length := Nat.le_antisymm h1 z
        have := (List.length_filter_eq_length_iff.mp e) x hx
        simp at this
    obtain ⟨y, hy⟩ := round_of n (l.filter fun y => decide (y ≠ x)) (fun a b => R a b ∨ (R a x ∧ R x b)) (by omega) (fun e => by rw [e] at hu'; cases hu') (fun a ha => by
      have ha1 := (List.mem_filter.mp ha).1
      obtain ⟨b, hb, hab⟩ := h a ha1
      by_cases hbx : b = x
      · exact ⟨u, hu', .inr ⟨hbx ▸ hab, hxu⟩⟩
      · exact ⟨b, List.mem_filter.mpr ⟨hb, decide_eq_true hbx⟩, .inl hab⟩)
    refine ⟨y, hy.map fun a b hab => ?_⟩
    rcases hab with hab | ⟨h1, h2⟩
    · exact .one hab
    · exact .cons h1 (.one h2)

/-! ### counting -/
/-- the edges of s that lead to none of P -/
def cnt (E : Edges) (P : List Int) (s : Int) : Nat := (E.filter fun e => decide (e.1 = s ∧ e.2 ∉ P)).length
/-- the sources of the edges that lead to h, in their order -/
def befs (E : Edges) (h : Int) : List Int := (E.filter fun e => decide (e.2 = h)).map (·.1)
theorem cnt_zero {E : Edges} {P : List Int} {s : Int} : cnt E P s = 0 ↔ ∀ t, (s, t) ∈ E → t ∈ P := by
  unfold cnt
  rw [List.length_eq_zero_iff, List.filter_eq_nil_iff]
  constructor
  · intro h t ht
    have := h (s, t) ht
    simp at this
    exact this
  · rintro h ⟨a, b⟩ hab
    simp
    rintro rfl
    exact h b hab
theorem cnt_snoc {P : List Int} {h s : Int} (hp : h ∉ P) : ∀ E : Edges, cnt E (P ++ [h]) s + (befs E h).count s = cnt E P s
  | [] => rfl
  | (a, b) :: E => by
    have ih := cnt_snoc hp E (s := s)
    unfold cnt befs at ih ⊢
    by_cases ha : a = s
    · by_cases hb : b = h
      · subst ha hb
        simp [List.filter_cons, hp]
        simp at ih
        omega
      · by_cases hbp : b ∈ P
        · simp [List.filter_cons, ha, hb, hbp]
          simpa using ih
        · simp [List.filter_cons, ha, hb, hbp]
          simp at ih
          omega
    · by_cases hb : b = h
      · subst hb
        have : ¬ a = s := ha
        simp [List.filter_cons, ha, List.count_cons]
        simpa using ih
      · simp [List.filter_cons, ha, hb]
        simpa using ih
theorem mem_befs {E : Edges} {h s : Int} : s ∈ befs E h ↔ (s, h) ∈ E := by
  unfold befs
  rw [List.mem_map]
  constructor
  · rintro ⟨⟨a, b⟩, hm, rfl⟩
    have := List.mem_filter.mp hm
    simp at this
    rw [← this.2]
    exact this.1
  · intro hm
    exact ⟨(s, h), List.mem_filter.mpr ⟨hm, by simp⟩, rfl⟩

/-! ### taking away -/
/-- P is taken away, W waits for it -/
structure Kahn (E : Edges) (P W : List Int) : Prop where
  nd : (P ++ W).Nodup
  safe : ∀ P1 x P2, P = P1 ++ x :: P2 → ∀ t, (x, t) ∈ E → t ∈ P1
  wait : ∀ x ∈ W, ∀ t, (x, t) ∈ E → t ∈ P
  all : ∀ y, ((∃ s, (s, y) ∈ E) ∨ ∃ t, (y, t) ∈ E) → (∀ t, (y, t) ∈ E → t ∈ P) → y ∈ P ++ W
  tgt : ∀ x ∈ P ++ W, (∃ s, (s, x) ∈ E) ∨ ∃ t, (x, t) ∈ E
theorem Kahn.here {E : Edges} {P W : List Int} {h : Int} (k : Kahn E P (W ++ [h])) : h ∉ P := by
  have nd := k.nd
  rw [← List.append_assoc] at nd
  intro hp
  have := (List.nodup_append.mp nd).2.2 h (List.mem_append_left _ hp) h (List.mem_singleton.mpr rfl)
  exact this rfl
/-- what is behind the last one -/
theorem Kahn.step {E : Edges} {P W Z : List Int} {h : Int} (k : Kahn E P (W ++ [h])) (zn : Z.Nodup) (zm : ∀ z, z ∈ Z ↔ z ∈ befs E h ∧ cnt E P z = (befs E h).count z) : Kahn E (P ++ [h]) (W ++ Z) := by
  have hp := k.here
  have nd := k.nd
  have nd2 : (P ++ [h] ++ W).Nodup := by
    have e : (P ++ (W ++ [h])).Perm (P ++ [h] ++ W) := by
      rw [List.append_assoc]
      exact List.Perm.append_left P List.perm_append_comm
    exact e.nodup_iff.mp nd
  refine ⟨?_, ?_, ?_, ?_, ?_⟩
  · rw [← List.append_assoc]
    refine List.nodup_append.mpr ⟨nd2, zn, fun a ha b hb e => ?_⟩
    subst e
    have hb' := (zm a).mp hb
    have hm := mem_befs.mp hb'.1
    rcases List.mem_append.mp ha with h1 | h1
    · rcases List.mem_append.mp h1 with h2 | h2
      · obtain ⟨P1, P2, e⟩ := List.append_of_mem h2
        have := k.safe P1 a P2 e h hm
        exact hp (by rw [e]; exact List.mem_append_left _ this)
      · rw [List.mem_singleton] at h2
        subst h2
        exact hp (k.wait a (List.mem_append_right _ (List.mem_singleton.mpr rfl)) a hm)
    · exact hp (k.wait a (List.mem_append_left _ h1) h hm)
  · intro P1 x P2 e t ht
    rcases List.eq_nil_or_concat P2 with rfl | ⟨P3, y, rfl⟩
    · have e1 := List.append_inj' e rfl
      rw [← e1.1]
      have : h = x := by simpa using e1.2
      subst this
      exact k.wait h (List.mem_append_right _ (List.mem_singleton.mpr rfl)) t ht
    · have e' : P ++ [h] = (P1 ++ x :: P3) ++ [y] := by rw [e]; simp
      have e1 := List.append_inj' e' rfl
      exact k.safe P1 x P3 e1.1 t ht
  · intro x hx t ht
    rcases List.mem_append.mp hx with h1 | h1
    · exact List.mem_append_left _ (k.wait x (List.mem_append_left _ h1) t ht)
    · have z := (zm x).mp h1
      have c := cnt_snoc hp E (s := x)
      have c0 : cnt E (P ++ [h]) x = 0 := by omega
      exact cnt_zero.mp c0 t ht
  · intro y hy hall
    by_cases hq : ∀ t, (y, t) ∈ E → t ∈ P
    · have := k.all y hy hq
      rw [← List.append_assoc] at this ⊢
      rcases List.mem_append.mp this with h1 | h1
      · refine List.mem_append_left _ ?_
        rcases List.mem_append.mp h1 with h2 | h2
        · exact List.mem_append_left _ (List.mem_append_left _ h2)
        · exact List.mem_append_right _ h2
      · exact List.mem_append_left _ (List.mem_append_left _ (List.mem_append_right _ h1))
    · have c0 : cnt E (P ++ [h]) y = 0 := cnt_zero.mpr hall
      have c := cnt_snoc hp E (s := y)
      have hne : cnt E P y ≠ 0 := fun e => hq (cnt_zero.mp e)
      have hpos : 0 < (befs E h).count y := by omega
      refine List.mem_append_right _ (List.mem_append_right _ ((zm y).mpr ⟨List.count_pos_iff.mp hpos, by omega⟩))
  · intro x hx
    rcases List.mem_append.mp hx with h1 | h1
    · rcases List.mem_append.mp h1 with h2 | h2
      · exact k.tgt x (List.mem_append_left _ h2)
      · exact k.tgt x (List.mem_append_right _ (List.mem_append_right _ h2))
    · rcases List.mem_append.mp h1 with h2 | h2
      · exact k.tgt x (List.mem_append_right _ (List.mem_append_left _ h2))
      · exact .inr ⟨h, mem_befs.mp ((zm x).mp h2).1⟩
theorem safe_no {E : Edges} : ∀ (n : Nat) (P : List Int), P.length = n → (∀ P1 x P2, P = P1 ++ x :: P2 → ∀ t, (x, t) ∈ E → t ∈ P1) → ∀ x ∈ P, ¬ Path E x x
  | 0, P, hn, _, x, hx => by rw [List.eq_nil_of_length_eq_zero hn] at hx; cases hx
  | n + 1, P, hn, hs, x, hx => by
    rcases List.eq_nil_or_concat P with rfl | ⟨Q, h, rfl⟩
    · cases hx
    simp only [List.concat_eq_append] at hn hs hx
    have hs' : ∀ P1 x P2, Q = P1 ++ x :: P2 → ∀ t, (x, t) ∈ E → t ∈ P1 := fun P1 x P2 e t ht => hs P1 x (P2 ++ [h]) (by rw [e]; simp) t ht
    have hQ : Q.length = n := by simpa using hn
    have ih := safe_no n Q hQ hs'
    have closed : ∀ a ∈ Q, ∀ t, (a, t) ∈ E → t ∈ Q := fun a ha t ht => by
      obtain ⟨P1, P2, e⟩ := List.append_of_mem ha
      rw [e]
      exact List.mem_append_left _ (hs' P1 a P2 e t ht)
    have stays : ∀ a b, Path E a b → a ∈ Q → b ∈ Q := by
      intro a b hab
      induction hab with
      | one e => exact fun ha => closed _ ha _ e
      | cons e _ ih2 => exact fun ha => ih2 (closed _ ha _ e)
    intro hp
    by_cases hxQ : x ∈ Q
    · exact ih x hxQ hp
    have hxh : x = h := by
      rcases List.mem_append.mp hx with z | z
      · exact absurd z hxQ
      · exact List.mem_singleton.mp z
    subst hxh
    have first : ∀ t, (x, t) ∈ E → t ∈ Q := hs Q x [] rfl
    cases hp with
    | one e => exact hxQ (first _ e)
    | cons e p => exact hxQ (stays _ _ p (first _ e))
/-- at the end, nobody waiting -/
theorem Kahn.fin {E : Edges} {P : List Int} (k : Kahn E P []) : (∃ s, cnt E P s ≠ 0) ↔ Cyc E := by
  constructor
  · rintro ⟨s, hs⟩
    have hn : ∀ y, ((∃ s, (s, y) ∈ E) ∨ ∃ t, (y, t) ∈ E) → y ∉ P → ∃ t, (y, t) ∈ E ∧ t ∉ P := fun y hy hyP => by
      refine Classical.byContradiction fun no => hyP ?_
      have := k.all y hy fun t ht => Classical.byContradiction fun z => no ⟨t, ht, z⟩
      simpa using this
    have h1 : ∃ t, (s, t) ∈ E ∧ t ∉ P := Classical.byContradiction fun no => hs (cnt_zero.mpr fun t ht => Classical.byContradiction fun z => no ⟨t, ht, z⟩)
    obtain ⟨t0, e0, h0⟩ := h1
    obtain ⟨x, hx⟩ := round_of _ ((E.map (·.2)).filter fun y => decide (y ∉ P)) (fun a b => (a, b) ∈ E) (Nat.le_refl _) (fun e => by
      have : t0 ∈ (E.map (·.2)).filter fun y => decide (y ∉ P) := List.mem_filter.mpr ⟨List.mem_map.mpr ⟨(s, t0), e0, rfl⟩, decide_eq_true h0⟩
      rw [e] at this
      cases this) (fun a ha => by
      have ha' := List.mem_filter.mp ha
      obtain ⟨⟨q, a'⟩, hq, rfl⟩ := List.mem_map.mp ha'.1
      obtain ⟨t, ht, htP⟩ := hn a' (.inl ⟨q, hq⟩) (of_decide_eq_true ha'.2)
      exact ⟨t, List.mem_filter.mpr ⟨List.mem_map.mpr ⟨(a', t), ht, rfl⟩, decide_eq_true htP⟩, ht⟩)
    have conv : ∀ a b, Tr (fun a b => (a, b) ∈ E) a b → Path E a b := by
      intro a b h
      induction h with
      | one e => exact .one e
      | cons e _ ih => exact .cons e ih
    exact ⟨x, conv _ _ hx⟩
  · rintro ⟨x, hx⟩
    refine Classical.byContradiction fun no => ?_
    have all0 : ∀ s t, (s, t) ∈ E → t ∈ P := fun s t ht => cnt_zero.mp (Classical.byContradiction fun z => no ⟨s, z⟩) t ht
    have hxP : x ∈ P := by
      have last : ∀ a b, Path E a b → b ∈ P := by
        intro a b h
        induction h with
        | one e => exact all0 _ _ e
        | cons _ _ ih => exact ih
      exact last _ _ hx
    exact safe_no _ P rfl k.safe x hxP hx
/-- at the beginning -/
theorem Kahn.init {E : Edges} {W : List Int} (nd : W.Nodup) (hm : ∀ y, y ∈ W ↔ (∃ s, (s, y) ∈ E) ∧ ∀ t, (y, t) ∉ E) : Kahn E [] W := by
  refine ⟨by simpa using nd, fun P1 x P2 e => ?_, fun x hx t ht => absurd ht (((hm x).mp hx).2 t), fun y hy hall => ?_, fun x hx => ?_⟩
  · have := congrArg List.length e
    simp at this
  · have no : ∀ t, (y, t) ∉ E := fun t ht => by simpa using hall t ht
    rcases hy with ⟨s, hs⟩ | ⟨t, ht⟩
    · simpa using (hm y).mpr ⟨⟨s, hs⟩, no⟩
    · exact absurd ht (no t)
  · exact .inl ((hm x).mp (by simpa using hx)).1

/-! ### leads, doubled -/
/-- a key's leads -/
structure Leads (E : Edges) (ks : List Int) (L : Int → List Int) : Prop where
  keys : ∀ s, s ∈ ks ↔ ∃ t, (s, t) ∈ E
  nd : ∀ s ∈ ks, (L s).Nodup
  base : ∀ s t, (s, t) ∈ E → t ∈ L s
  sound : ∀ s ∈ ks, ∀ t ∈ L s, Path E s t
/-- one doubling -/
structure Next (ks : List Int) (L L' : Int → List Int) : Prop where
  nd : ∀ s ∈ ks, (L' s).Nodup
  mem : ∀ s ∈ ks, ∀ t, t ∈ L' s ↔ t ∈ L s ∨ ∃ m ∈ L s, m ∈ ks ∧ t ∈ L m
theorem Leads.next {E : Edges} {ks : List Int} {L L' : Int → List Int} (l : Leads E ks L) (n : Next ks L L') : Leads E ks L' := by
  refine ⟨l.keys, n.nd, fun s t ht => (n.mem s ((l.keys s).mpr ⟨t, ht⟩) t).mpr (.inl (l.base s t ht)), fun s hs t ht => ?_⟩
  rcases (n.mem s hs t).mp ht with h | ⟨m, hm, hmk, hmt⟩
  · exact l.sound s hs t h
  · exact (l.sound s hs m hm).trans (l.sound m hmk t hmt)
theorem nodup_le {l m : List Int} (nd : l.Nodup) (h : ∀ x ∈ l, x ∈ m) : l.length ≤ m.length := by
  induction l generalizing m with
  | nil => exact Nat.zero_le _
  | cons x l ih =>
    have hx := h x List.mem_cons_self
    obtain ⟨m1, m2, rfl⟩ := List.append_of_mem hx
    have nd' := List.nodup_cons.mp nd
    have := ih (m := m1 ++ m2) nd'.2 fun y hy => by
      have hy' := h y (List.mem_cons_of_mem _ hy)
      rcases List.mem_append.mp hy' with z | z
      · exact List.mem_append_left _ z
      · rcases List.mem_cons.mp z with rfl | z
        · exact absurd hy nd'.1
        · exact List.mem_append_right _ z
    simp at this ⊢
    omega
theorem nodup_eq {l m : List Int} (nd : l.Nodup) (nm : m.Nodup) (h : ∀ x ∈ l, x ∈ m) (he : m.length ≤ l.length) : ∀ x ∈ m, x ∈ l := by
  intro x hx
  refine Classical.byContradiction fun no => ?_
  have := nodup_le (l := x :: l) (m := m) (List.nodup_cons.mpr ⟨no, nd⟩) fun y hy => by
    rcases List.mem_cons.mp hy with rfl | hy
    · exact hx
    · exact h y hy
  simp at this
  omega
def total (ks : List Int) (L : Int → List Int) : Nat := (ks.map fun s => (L s).length).sum
theorem total_le {ks : List Int} {L L' : Int → List Int} (h : ∀ s ∈ ks, (L s).length ≤ (L' s).length) : total ks L ≤ total ks L' := by
  unfold total
  induction ks with
  | nil => exact Nat.le_refl _
  | cons s ks ih =>
    rw [List.map_cons, List.map_cons, List.sum_cons, List.sum_cons]
    have := ih fun x hx => h x (List.mem_cons_of_mem _ hx)
    have := h s List.mem_cons_self
    omega
theorem total_eq {ks : List Int} {L L' : Int → List Int} (h : ∀ s ∈ ks, (L s).length ≤ (L' s).length) (e : total ks L = total ks L') : ∀ s ∈ ks, (L' s).length ≤ (L s).length := by
  unfold total at e
  induction ks with
  | nil => exact fun s hs => (nomatch hs)
  | cons s ks ih =>
    rw [List.map_cons, List.map_cons, List.sum_cons, List.sum_cons] at e
    have h1 := h s List.mem_cons_self
    have h2 : total ks L ≤ total ks L' := total_le fun x hx => h x (List.mem_cons_of_mem _ hx)
    unfold total at h2
    intro x hx
    rcases List.mem_cons.mp hx with rfl | hx
    · omega
    · exact ih (fun x hx => h x (List.mem_cons_of_mem _ hx)) (by omega) x hx
theorem Next.up {E : Edges} {ks : List Int} {L L' : Int → List Int} (l : Leads E ks L) (n : Next ks L L') : ∀ s ∈ ks, (L s).length ≤ (L' s).length := fun s hs =>
  nodup_le (l.nd s hs) fun t ht => (n.mem s hs t).mpr (.inl ht)
theorem path_tgt {E : Edges} {s t : Int} (h : Path E s t) : t ∈ E.map (·.2) := by
  induction h with
  | @one a b e => exact List.mem_map.mpr ⟨(a, b), e, rfl⟩
  | cons _ _ ih => exact ih
theorem total_bound {E : Edges} {ks : List Int} {L : Int → List Int} (l : Leads E ks L) : total ks L ≤ ks.length * E.length := by
  have h : ∀ s ∈ ks, (L s).length ≤ E.length := fun s hs => by
    have := nodup_le (l.nd s hs) fun t ht => path_tgt (l.sound s hs t ht)
    simpa using this
  unfold total
  clear l
  induction ks with
  | nil => simp
  | cons s ks ih =>
    rw [List.map_cons, List.sum_cons, List.length_cons, Nat.succ_mul]
    have := ih fun x hx => h x (List.mem_cons_of_mem _ hx)
    have := h s List.mem_cons_self
    omega
/-- when nothing is new -/
theorem Leads.fin {E : Edges} {ks : List Int} {L L' : Int → List Int} (l : Leads E ks L) (n : Next ks L L') (e : total ks L = total ks L') : (∃ s ∈ ks, s ∈ L' s) ↔ Cyc E := by
  have l' := l.next n
  constructor
  · rintro ⟨s, hs, h⟩
    exact ⟨s, l'.sound s hs s h⟩
  · have back : ∀ s ∈ ks, ∀ t ∈ L' s, t ∈ L s := fun s hs => nodup_eq (l.nd s hs) (n.nd s hs) (fun t ht => (n.mem s hs t).mpr (.inl ht)) (total_eq (Next.up l n) e s hs)
    have allp : ∀ s t, Path E s t → t ∈ L s := by
      intro s t h
      induction h with
      | one e => exact l.base _ _ e
      | @cons s m t hm p ih =>
        have hs : s ∈ ks := (l.keys s).mpr ⟨m, hm⟩
        have hmk : m ∈ ks := by
          cases p with
          | one e => exact (l.keys m).mpr ⟨_, e⟩
          | cons e _ => exact (l.keys m).mpr ⟨_, e⟩
        exact back s hs t ((n.mem s hs t).mpr (.inr ⟨m, l.base _ _ hm, hmk, ih⟩))
    rintro ⟨x, hx⟩
    have hk : x ∈ ks := by
      cases hx with
      | one e => exact (l.keys x).mpr ⟨_, e⟩
      | cons e _ => exact (l.keys x).mpr ⟨_, e⟩
    exact ⟨x, hk, (n.mem x hk x).mpr (.inl (allp x x hx))⟩
/-- cycles hang on the edges as a set alone -/
theorem Cyc.congr {E F : Edges} (h : ∀ e, e ∈ E ↔ e ∈ F) : Cyc E ↔ Cyc F := by
  have go : ∀ {E F : Edges}, (∀ e, e ∈ E → e ∈ F) → ∀ x y, Path E x y → Path F x y := by
    intro E F h x y p
    induction p with
    | one e => exact .one (h _ e)
    | cons e _ ih => exact .cons (h _ e) ih
  exact ⟨fun ⟨x, hx⟩ => ⟨x, go (fun e => (h e).mp) x x hx⟩, fun ⟨x, hx⟩ => ⟨x, go (fun e => (h e).mpr) x x hx⟩⟩
end K24m

/-! Rows in order, charts that grew, loop arrows as a Bool: plain Lean. -/
namespace K24
open PySem L2 KS GL LB K24m ML
open CH (outs sucs take_row row_at sameT' gd_get labelB arrowB ChartOk)
open PySem.Spec hiding Row
open PyProof.Rows hiding cnt
def rowLt (r q : Row) : Prop := r.1 < q.1 ∨ (r.1 = q.1 ∧ (r.2.1.cps.toList < q.2.1.cps.toList ∨ (r.2.1 = q.2.1 ∧ r.2.2 < q.2.2)))
theorem eqv_int (x y : Int) : PyData.eqv (.int x) (.int y) = decide (x = y) := by
  rw [Bool.eq_iff_iff, decide_eq_true_eq]
  simp [PyData.eqv]
theorem eqv_str (x y : Str) : PyData.eqv (.str x) (.str y) = decide (x = y) := by
  rw [Bool.eq_iff_iff, decide_eq_true_eq]
  simp [PyData.eqv]
theorem dataLt_row (r q : Row) : W.dataLt (rowD r) (rowD q) = true ↔ rowLt r q := by
  obtain ⟨a, b, c⟩ := r
  obtain ⟨a', b', c'⟩ := q
  have k1 : W.alike (.int a) (.int a') = true := by simp [W.alike]
  have k2 : W.alike (.str b) (.str b') = true := by simp [W.alike]
  have k3 : W.alike (.int c) (.int c') = true := by simp [W.alike]
  unfold rowD rowLt
  rw [W.dataLt_tuple]
  dsimp only
  by_cases h1 : a = a'
  · subst h1
    rw [W.dataLt_all_yes k1 (by rw [eqv_int]; simp)]
    by_cases h2 : b = b'
    · subst h2
      rw [W.dataLt_all_yes k2 (by rw [eqv_str]; simp)]
      by_cases h3 : c = c'
      · subst h3
        rw [W.dataLt_all_yes k3 (by rw [eqv_int]; simp)]
        have irr : ¬ b.cps.toList < b.cps.toList := List.lt_irrefl _
        constructor
        · intro h
          exact absurd h (by decide)
        · rintro (h | ⟨_, h | ⟨_, h⟩⟩)
          · exact absurd h (Int.lt_irrefl _)
          · exact absurd h irr
          · exact absurd h (Int.lt_irrefl _)
      · rw [W.dataLt_all_no k3 (by rw [eqv_int]; simpa using h3), W.dataLt_int, decide_eq_true_eq]
        have irr : ¬ b.cps.toList < b.cps.toList := List.lt_irrefl _
        constructor
        · exact fun h => .inr ⟨rfl, .inr ⟨rfl, h⟩⟩
        · rintro (h | ⟨_, h | ⟨_, h⟩⟩)
          · exact absurd h (Int.lt_irrefl _)
          · exact absurd h irr
          · exact h
    · rw [W.dataLt_all_no k2 (by rw [eqv_str]; simpa using h2), W.dataLt_str]
      simp [h2]
  · rw [W.dataLt_all_no k1 (by rw [eqv_int]; simpa using h1), W.dataLt_int]
    simp [h1]
theorem row_tri {r q : Row} (h1 : ¬ rowLt r q) (h2 : ¬ rowLt q r) : r = q := by
  obtain ⟨a, b, c⟩ := r
  obtain ⟨a', b', c'⟩ := q
  unfold rowLt at h1 h2
  dsimp only at h1 h2
  have e1 : a = a' := by omega
  subst e1
  have e2 : b.cps.toList = b'.cps.toList := by
    have n1 : ¬ b.cps.toList < b'.cps.toList := fun z => h1 (.inr ⟨rfl, .inl z⟩)
    have n2 : ¬ b'.cps.toList < b.cps.toList := fun z => h2 (.inr ⟨rfl, .inl z⟩)
    exact List.le_antisymm (List.not_lt.mp n2) (List.not_lt.mp n1)
  have e3 : b = b' := by
    cases b
    cases b'
    simp at e2
    rw [e2]
  subst e3
  have e4 : c = c' := by
    have n1 : ¬ c < c' := fun z => h1 (.inr ⟨rfl, .inr ⟨rfl, z⟩⟩)
    have n2 : ¬ c' < c := fun z => h2 (.inr ⟨rfl, .inr ⟨rfl, z⟩⟩)
    omega
  subst e4
  rfl
theorem strict_of {rs : List (Addr × Row)} (pw : rs.Pairwise fun q r => W.dataLt (rowD r.2) (rowD q.2) = false) (nd : (rs.map (·.2)).Nodup) : ∀ i (h : i + 1 < (rs.map (·.2)).length), W.dataLt (rowD (rs.map (·.2))[i]) (rowD (rs.map (·.2))[i + 1]) = true := by
  intro i h
  have h' : i + 1 < rs.length := by rwa [List.length_map] at h
  have h1 := List.pairwise_iff_getElem.mp pw i (i + 1) (by omega) h' (by omega)
  have h2 := List.pairwise_iff_getElem.mp nd i (i + 1) (by omega) h (by omega)
  rw [List.getElem_map, List.getElem_map] at h2 ⊢
  rw [dataLt_row]
  refine Classical.byContradiction fun no => h2 (row_tri no fun z => ?_)
  rw [(dataLt_row _ _).mpr z] at h1
  cases h1
theorem mem_sucs {R : List Row} {s t : Int} : t ∈ sucs R s ↔ t ≠ -1 ∧ ∃ l, (s, l, t) ∈ R := by
  unfold sucs outs
  rw [List.mem_filter, decide_eq_true_eq, List.mem_map, and_comm]
  refine and_congr Iff.rfl ⟨?_, ?_⟩
  · rintro ⟨⟨a, b, c⟩, h, rfl⟩
    have := List.mem_filter.mp h
    have h2 : a = s := of_decide_eq_true this.2
    exact ⟨b, h2 ▸ this.1⟩
  · rintro ⟨l, h⟩
    exact ⟨(s, l, t), List.mem_filter.mpr ⟨h, decide_eq_true rfl⟩, rfl⟩
theorem Rch.mono {f g : Int → List Int} (h : ∀ x y, y ∈ f x → y ∈ g x) {x y : Int} (r : Rch f x y) : Rch g x y := by
  induction r with
  | refl => exact .refl
  | step _ hz ih => exact .step ih (h _ _ hz)
theorem sucs_mono {R R' : List Row} (h : ∀ r ∈ R, r ∈ R') : ∀ x y, y ∈ sucs R x → y ∈ sucs R' x := fun x y hy => by
  obtain ⟨h1, l, h2⟩ := mem_sucs.mp hy
  exact mem_sucs.mpr ⟨h1, l, h _ h2⟩
structure GrOk (R : List Row) (n : Nat) : Prop where
  pos : 1 ≤ n
  arr : ∀ r ∈ R, (0 ≤ r.1 ∧ r.1 < n) ∧ (-1 ≤ r.2.2 ∧ r.2.2 < n) ∧ labelB r.2.1 = true
  all : ∀ m : Nat, m < n → Rch (sucs R) 0 m
theorem GrOk.init : GrOk [] 1 := ⟨Nat.le_refl _, fun _ h => (nomatch h), fun m hm => by
  obtain rfl : m = 0 := by omega
  exact .refl⟩
theorem GrOk.add {R : List Row} {n : Nat} (g : GrOk R n) {r : Row} (h : (0 ≤ r.1 ∧ r.1 < n) ∧ (-1 ≤ r.2.2 ∧ r.2.2 < n) ∧ labelB r.2.1 = true) : GrOk (R ++ [r]) n :=
  ⟨g.pos, fun x hx => by
    rcases List.mem_append.mp hx with z | z
    · exact g.arr x z
    · rw [List.mem_singleton.mp z]; exact h, fun m hm => Rch.mono (sucs_mono fun x hx => List.mem_append_left _ hx) (g.all m hm)⟩
theorem GrOk.grow {R : List Row} {n : Nat} (g : GrOk R n) {x : Int} {l : Str} (h1 : 0 ≤ x) (h2 : x < n) (hl : labelB l = true) : GrOk (R ++ [(x, l, (n : Int))]) (n + 1) := by
  have sm : ∀ m : Nat, m < n → Rch (sucs (R ++ [(x, l, (n : Int))])) 0 m := fun m hm => Rch.mono (sucs_mono fun x hx => List.mem_append_left _ hx) (g.all m hm)
  refine ⟨by omega, fun y hy => ?_, fun m hm => ?_⟩
  · rcases List.mem_append.mp hy with z | z
    · obtain ⟨a, b, c⟩ := g.arr y z
      exact ⟨⟨a.1, by omega⟩, ⟨b.1, by omega⟩, c⟩
    · rw [List.mem_singleton.mp z]
      exact ⟨⟨h1, by simp only; omega⟩, ⟨by simp only; omega, by simp only; omega⟩, hl⟩
  · by_cases e : m = n
    · subst e
      obtain ⟨k, rfl⟩ : ∃ k : Nat, x = (k : Int) := ⟨x.toNat, by omega⟩
      exact .step (sm k (by omega)) (mem_sucs.mpr ⟨by omega, l, List.mem_append_right _ (List.mem_singleton.mpr rfl)⟩)
    · exact sm m (by omega)
theorem GrOk.same {R R' : List Row} {n : Nat} (g : GrOk R n) (h : ∀ r, r ∈ R' ↔ r ∈ R) : GrOk R' n := ⟨g.pos, fun r hr => g.arr r ((h r).mp hr), fun m hm => Rch.mono (sucs_mono fun r hr => (h r).mpr hr) (g.all m hm)⟩
theorem GrOk.chart {R : List Row} {n : Nat} (g : GrOk R n) (ord : ∀ i (h : i + 1 < R.length), W.dataLt (rowD R[i]) (rowD R[i + 1]) = true) : ChartOk n R :=
  ⟨g.pos, fun r hr => by
    obtain ⟨a, b, c⟩ := g.arr r hr
    unfold arrowB
    simp [a, b, c], ord, g.all⟩
def signs : List Str := ["a", "a", "b", "c", "ab", "zzzzzzzz"]
theorem sign_ok : ∀ l ∈ signs, l.length ≤ 8 ∧ PyData.strOk l = true ∧ labelB l = true := by decide +kernel
theorem rowLt_trans {a b c : Row} (h1 : rowLt a b) (h2 : rowLt b c) : rowLt a c := by
  obtain ⟨a1, a2, a3⟩ := a
  obtain ⟨b1, b2, b3⟩ := b
  obtain ⟨c1, c2, c3⟩ := c
  unfold rowLt at *
  dsimp only at *
  rcases h1 with h1 | ⟨rfl, h1⟩
  · rcases h2 with h2 | ⟨rfl, h2⟩
    · exact .inl (by omega)
    · exact .inl h1
  · rcases h2 with h2 | ⟨rfl, h2⟩
    · exact .inl h2
    · refine .inr ⟨rfl, ?_⟩
      rcases h1 with h1 | ⟨rfl, h1⟩
      · rcases h2 with h2 | ⟨rfl, h2⟩
        · exact .inl (List.lt_trans h1 h2)
        · exact .inl h1
      · rcases h2 with h2 | ⟨rfl, h2⟩
        · exact .inl h2
        · exact .inr ⟨rfl, by omega⟩
theorem rowLt_irrefl (a : Row) : ¬ rowLt a a := by
  unfold rowLt
  rintro (h | ⟨_, h | ⟨_, h⟩⟩)
  · omega
  · exact List.lt_irrefl _ h
  · omega
theorem sorted_eq : ∀ {l m : List Row}, l.Pairwise rowLt → m.Pairwise rowLt → (∀ x, x ∈ l ↔ x ∈ m) → l = m
  | [], [], _, _, _ => rfl
  | [], y :: m, _, _, h => by have := (h y).mpr List.mem_cons_self; cases this
  | x :: l, [], _, _, h => by have := (h x).mp List.mem_cons_self; cases this
  | x :: l, y :: m, pl, pm, h => by
    have pl' := List.pairwise_cons.mp pl
    have pm' := List.pairwise_cons.mp pm
    have e : x = y := by
      rcases List.mem_cons.mp ((h x).mp List.mem_cons_self) with e | hx
      · exact e
      · rcases List.mem_cons.mp ((h y).mpr List.mem_cons_self) with e | hy
        · exact e.symm
        · exact absurd (rowLt_trans (pl'.1 y hy) (pm'.1 x hx)) (rowLt_irrefl _)
    subst e
    rw [sorted_eq pl'.2 pm'.2 fun z => ?_]
    constructor
    · intro hz
      rcases List.mem_cons.mp ((h z).mp (List.mem_cons_of_mem _ hz)) with rfl | hm
      · exact absurd (pl'.1 z hz) (rowLt_irrefl _)
      · exact hm
    · intro hz
      rcases List.mem_cons.mp ((h z).mpr (List.mem_cons_of_mem _ hz)) with rfl | hm
      · exact absurd (pm'.1 z hz) (rowLt_irrefl _)
      · exact hm
theorem strict_pw {rs : List (Addr × Row)} (pw : rs.Pairwise fun q r => W.dataLt (rowD r.2) (rowD q.2) = false) (nd : (rs.map (·.2)).Nodup) : (rs.map (·.2)).Pairwise rowLt := by
  rw [List.pairwise_map]
  have nd' := List.pairwise_map.mp nd
  refine (pw.and nd').imp fun {a b} h => ?_
  refine Classical.byContradiction fun no => h.2 (row_tri no fun z => ?_)
  rw [(dataLt_row _ _).mpr z] at h
  exact absurd h.1 (by decide)
theorem row_ext {a b : Row} : a = b ↔ a.1 = b.1 ∧ a.2.1 = b.2.1 ∧ a.2.2 = b.2.2 := by
  obtain ⟨a1, a2, a3⟩ := a
  obtain ⟨b1, b2, b3⟩ := b
  simp
theorem strict_rows {R : List Row} (pw : R.Pairwise fun a b => W.dataLt (rowD b) (rowD a) = false) (nd : R.Nodup) : R.Pairwise rowLt := by
  refine (pw.and nd).imp fun {a b} h => ?_
  refine Classical.byContradiction fun no => h.2 (row_tri no fun z => ?_)
  rw [(dataLt_row _ _).mpr z] at h
  exact absurd h.1 (by decide)
theorem ord_rows : ∀ {R : List Row}, R.Pairwise rowLt → ∀ i (h : i + 1 < R.length), W.dataLt (rowD R[i]) (rowD R[i + 1]) = true
  | [], _, i, h => absurd h (Nat.not_lt_zero _)
  | [a], _, i, h => by simp at h
  | a :: b :: R, p, 0, h => (dataLt_row _ _).mpr ((List.pairwise_cons.mp p).1 b List.mem_cons_self)
  | a :: b :: R, p, i + 1, h => ord_rows (R := b :: R) (List.pairwise_cons.mp p).2 i (Nat.lt_of_succ_lt_succ h)
end K24

namespace ML
open PySem PySem.Spec PyProof.Rows L2 KS GL LB
section
variable {K : PySem.W.Frag} {ρ : MS} {Q : Rt → MS → Prop} {Qb : Bool → MS → Prop} {ta tb te tc td ty tv : TE} {t u : TT} {np : Nat} {ts us : TS} {n b c : MS → Prop} {r : Rt → MS → Prop}
/-- what is walked, as a list of data -/
def wkD (K : PySem.W.Frag) (wi : TI) (ρ : MS) (C : List PyData → MS → Prop) : Prop := wk K wi ρ fun m item ρ1 => ∃ ds : List PyData, m = ds.length ∧ (∀ i, i < m → item i = ds.getD i .none) ∧ C ds ρ1
theorem wkD_list {C : List PyData → MS → Prop} (h : ev te ρ fun r ρ1 => ∃ ds ρ2, asD K ρ1 r (.list ds) ρ2 ∧ C ds ρ2) : wkD K (iList K te) ρ C := wk_list (ev_mono h fun r ρ1 ⟨ds, ρ2, a, q⟩ => ⟨ds, ρ2, a, ds, rfl, fun _ _ => rfl, q⟩)
theorem wkD_tup {C : List PyData → MS → Prop} (h : ev te ρ fun r ρ1 => ∃ ds ρ2, asD K ρ1 r (.tuple ds) ρ2 ∧ C ds ρ2) : wkD K (iTup K te) ρ C := wk_tup (ev_mono h fun r ρ1 ⟨ds, ρ2, a, q⟩ => ⟨ds, ρ2, a, ds, rfl, fun _ _ => rfl, q⟩)
theorem evD_mono {ta : TA} {Q Q' : List PyData → MS → Prop} (h : evD K ta ρ Q) (hq : ∀ ds ρ', Q ds ρ' → Q' ds ρ') : evD K ta ρ Q' := fun σ H0 H G k S hk => h σ H0 H G k S fun ds ρ' vs H1 H1' q => hk ds ρ' vs H1 H1' (hq _ _ q)
def intsFrom (lo : Int) (m : Nat) : List PyData := (List.range m).map fun i : Nat => PyData.int (lo + i)
theorem wkD_rng1 {ta : TA} {C : List PyData → MS → Prop} (h : evD K ta ρ fun ds ρ1 => ∃ j : Int, ds = [.int j] ∧ j < 2 ^ 62 ∧ -(2 ^ 62) ≤ j ∧ C ((List.range j.toNat).map fun i : Nat => PyData.int i) ρ1) : wkD K (iRng1 ta) ρ C :=
  wk_rng1 (evD_mono h fun ds ρ1 ⟨j, e, h1, h2, q⟩ => ⟨j, e, h1, h2, _, by rw [List.length_map, List.length_range], fun i hi => by rw [List.getD_eq_getElem?_getD, List.getElem?_map, List.getElem?_range hi]; rfl, q⟩)
theorem wkD_rng2 {ta : TA} {C : List PyData → MS → Prop} (h : evD K ta ρ fun ds ρ1 => ∃ i j : Int, ds = [.int i, .int j] ∧ (-(2 ^ 62) ≤ i ∧ i < 2 ^ 62 ∧ -(2 ^ 62) ≤ j ∧ j < 2 ^ 62) ∧ C ((List.range (j - i).toNat).map fun x : Nat => PyData.int (i + x)) ρ1) : wkD K (iRng2 ta) ρ C :=
  wk_rng2 (evD_mono h fun ds ρ1 ⟨i, j, e, h1, q⟩ => ⟨i, j, e, h1, _, by rw [List.length_map, List.length_range], fun x hx => by rw [List.getD_eq_getElem?_getD, List.getElem?_map, List.getElem?_range hx]; rfl, q⟩)
theorem wkD_str {C : List PyData → MS → Prop} (h : ev te ρ fun r ρ1 => ∃ z, r = .val (dat K (.str z)) ∧ C (z.cps.toList.map fun c : Nat => PyData.str ⟨#[c]⟩) ρ1) : wkD K (iStr te) ρ C :=
  wk_str (ev_mono h fun r ρ1 ⟨z, e, q⟩ => ⟨z, e, _, by simp, fun i hi => by
    show PyData.str ⟨#[z.cps.getD i 0]⟩ = _
    rw [List.getD_eq_getElem?_getD, List.getElem?_map, Array.getElem?_toList, Array.getD_eq_getD_getElem?, Array.getElem?_eq_getElem hi]
    rfl, q⟩)
theorem x_forD {wi : TI} {g : TG} (h : wkD K wi ρ fun ds ρ1 => ∃ I : Nat → MS → Prop, I 0 ρ1 ∧ (∀ i ρ', i < ds.length → I i ρ' → ∃ l, (∀ j ∈ l, np ≤ j) ∧ tg l g (.val (dat K (ds.getD i .none))) ρ' fun ρ2 => ex np ts ρ2 ⟨I (i + 1), r, n, I (i + 1)⟩) ∧ ∀ ρ', I ds.length ρ' → n ρ') : ex np (tFor wi g ts) ρ ⟨n, r, b, c⟩ := by
  refine x_for (K := K) fun σ H0 H G k S hk => h σ H0 H G k S fun m item ρ1 J H1 H1' ⟨ds, e1, e2, I, i0, st, fin⟩ => hk m item ρ1 J H1 H1' ?_
  subst e1
  refine ⟨I, i0, fun i ρ' hi hI => ?_, fin⟩
  rw [e2 i hi]
  exact st i ρ' hi hI
/-- .. by what has been taken -/
theorem for_pre {α : Type} {g : TG} {ds : List PyData} (xs : List α) (f : α → PyData) (e : ds = xs.map f) (I : List α → MS → Prop) (h0 : I [] ρ) (hs : ∀ pre x post ρ', xs = pre ++ x :: post → I pre ρ' → ∃ l, (∀ j ∈ l, np ≤ j) ∧ tg l g (.val (dat K (f x))) ρ' fun ρ2 => ex np ts ρ2 ⟨I (pre ++ [x]), r, n, I (pre ++ [x])⟩) (hd : ∀ ρ', I xs ρ' → n ρ') :
    ∃ I : Nat → MS → Prop, I 0 ρ ∧ (∀ i ρ', i < ds.length → I i ρ' → ∃ l, (∀ j ∈ l, np ≤ j) ∧ tg l g (.val (dat K (ds.getD i .none))) ρ' fun ρ2 => ex np ts ρ2 ⟨I (i + 1), r, n, I (i + 1)⟩) ∧ ∀ ρ', I ds.length ρ' → n ρ' := by
  subst e
  exact by_pre (xs := xs) (f := f) (P := fun i d N ρ' => ∃ l, (∀ j ∈ l, np ≤ j) ∧ tg l g (.val (dat K d)) ρ' fun ρ2 => ex np ts ρ2 ⟨N, r, n, N⟩) I h0 hs hd
theorem lcH_of {wi : TI} {g : TG} {vs : List Nat} {C : List PyData → MS → Prop} (h : wkD K wi ρ fun ds ρ1 => ds.length ≤ sizeLine ∧ ∃ I : Nat → List PyData → MS → Prop, I 0 [] (wipeM ρ1 vs) ∧ (∀ i acc ρ', i < ds.length → I i acc ρ' → ∃ l, (∀ j ∈ l, j ∈ vs) ∧ tg l g (.val (dat K (ds.getD i .none))) ρ' fun ρ2 => evT t ρ2 fun b ρ3 => (b = true → ev te ρ3 fun r ρ4 => ∃ d ρ5, asD K ρ4 r d ρ5 ∧ I (i + 1) (acc ++ [d]) (wipeM ρ5 vs)) ∧ (b = false → I (i + 1) acc (wipeM ρ3 vs))) ∧ ∀ acc ρ', I ds.length acc ρ' → C acc ρ') : lcH K wi g t te vs ρ C := by
  refine fun σ H0 H G k S hk => h σ H0 H G k S fun m item ρ1 J H1 H1' ⟨ds, e1, e2, hl, I, i0, st, fin⟩ => hk m item ρ1 J H1 H1' ?_
  subst e1
  refine ⟨hl, I, i0, fun i acc ρ' hi hI => ?_, fin⟩
  rw [e2 i hi]
  exact st i acc ρ' hi hI
theorem x_lc {wi : TI} {g : TG} {vs : List Nat} (h : wkD K wi ρ fun ds ρ1 => ds.length ≤ sizeLine ∧ ∃ I : Nat → List PyData → MS → Prop, I 0 [] (wipeM ρ1 vs) ∧ (∀ i acc ρ', i < ds.length → I i acc ρ' → ∃ l, (∀ j ∈ l, j ∈ vs) ∧ tg l g (.val (dat K (ds.getD i .none))) ρ' fun ρ2 => evT t ρ2 fun b ρ3 => (b = true → ev te ρ3 fun r ρ4 => ∃ d ρ5, asD K ρ4 r d ρ5 ∧ I (i + 1) (acc ++ [d]) (wipeM ρ5 vs)) ∧ (b = false → I (i + 1) acc (wipeM ρ3 vs))) ∧ ∀ acc ρ', I ds.length acc ρ' → Q (.val (lo K acc)) ρ') : ev (tLc wi g t te vs) ρ Q := ev_lcO (lcH_of h)
/-- a comprehension by what has been taken -/
theorem lc_pre {α : Type} {g : TG} {vs : List Nat} {ds : List PyData} {C : List PyData → MS → Prop} (xs : List α) (f : α → PyData) (e : ds = xs.map f) (hl : xs.length ≤ 100000) (I : List α → List PyData → MS → Prop) (h0 : I [] [] (wipeM ρ vs))
    (hs : ∀ pre x post acc ρ', xs = pre ++ x :: post → I pre acc ρ' → ∃ l, (∀ j ∈ l, j ∈ vs) ∧ tg l g (.val (dat K (f x))) ρ' fun ρ2 => evT t ρ2 fun b ρ3 => (b = true → ev te ρ3 fun r ρ4 => ∃ d ρ5, asD K ρ4 r d ρ5 ∧ I (pre ++ [x]) (acc ++ [d]) (wipeM ρ5 vs)) ∧ (b = false → I (pre ++ [x]) acc (wipeM ρ3 vs))) (hd : ∀ acc ρ', I xs acc ρ' → C acc ρ') :
    ds.length ≤ sizeLine ∧ ∃ I : Nat → List PyData → MS → Prop, I 0 [] (wipeM ρ vs) ∧ (∀ i acc ρ', i < ds.length → I i acc ρ' → ∃ l, (∀ j ∈ l, j ∈ vs) ∧ tg l g (.val (dat K (ds.getD i .none))) ρ' fun ρ2 => evT t ρ2 fun b ρ3 => (b = true → ev te ρ3 fun r ρ4 => ∃ d ρ5, asD K ρ4 r d ρ5 ∧ I (i + 1) (acc ++ [d]) (wipeM ρ5 vs)) ∧ (b = false → I (i + 1) acc (wipeM ρ3 vs))) ∧ ∀ acc ρ', I ds.length acc ρ' → C acc ρ' := by
  subst e
  refine ⟨by rw [List.length_map]; exact le_line hl, ?_⟩
  exact by_pre2 (xs := xs) (f := f) (P := fun i d ds N ρ' => ∃ l, (∀ j ∈ l, j ∈ vs) ∧ tg l g (.val (dat K d)) ρ' fun ρ2 => evT t ρ2 fun b ρ3 => (b = true → ev te ρ3 fun r ρ4 => ∃ d ρ5, asD K ρ4 r d ρ5 ∧ N (ds ++ [d]) (wipeM ρ5 vs)) ∧ (b = false → N ds (wipeM ρ3 vs))) I h0 hs hd
/-- a comprehension whose turns leave all as it is: filter and map -/
theorem lc_fm {α : Type} {g : TG} {vs : List Nat} {ds : List PyData} {C : List PyData → MS → Prop} (xs : List α) (f : α → PyData) (e : ds = xs.map f) (hl : xs.length ≤ 100000) (p : α → Bool) (h : α → PyData)
    (hs : ∀ x ∈ xs, ∃ l, (∀ j ∈ l, j ∈ vs) ∧ tg l g (.val (dat K (f x))) (wipeM ρ vs) fun ρ2 => evT t ρ2 fun b ρ3 => (b = true → ev te ρ3 fun r ρ4 => ∃ d ρ5, asD K ρ4 r d ρ5 ∧ p x = true ∧ d = h x ∧ wipeM ρ5 vs = wipeM ρ vs) ∧ (b = false → p x = false ∧ wipeM ρ3 vs = wipeM ρ vs)) (hC : C ((xs.filter p).map h) (wipeM ρ vs)) :
    ds.length ≤ sizeLine ∧ ∃ I : Nat → List PyData → MS → Prop, I 0 [] (wipeM ρ vs) ∧ (∀ i acc ρ', i < ds.length → I i acc ρ' → ∃ l, (∀ j ∈ l, j ∈ vs) ∧ tg l g (.val (dat K (ds.getD i .none))) ρ' fun ρ2 => evT t ρ2 fun b ρ3 => (b = true → ev te ρ3 fun r ρ4 => ∃ d ρ5, asD K ρ4 r d ρ5 ∧ I (i + 1) (acc ++ [d]) (wipeM ρ5 vs)) ∧ (b = false → I (i + 1) acc (wipeM ρ3 vs))) ∧ ∀ acc ρ', I ds.length acc ρ' → C acc ρ' := by
  refine lc_pre xs f e hl (fun pre acc ρ' => acc = (pre.filter p).map h ∧ ρ' = wipeM ρ vs) ⟨rfl, rfl⟩ (fun pre x post acc ρ' e ⟨ha, hr⟩ => ?_) fun acc ρ' ⟨ha, hr⟩ => by rw [ha, hr]; exact hC
  subst ha hr
  obtain ⟨l, hl, ht⟩ := hs x (by rw [e]; simp)
  refine ⟨l, hl, fun σ H0 H G v f k S hr hd hk => ht σ H0 H G v f k S hr hd fun ρ3 σ' H0' H' q => hk ρ3 σ' H0' H' (evT_mono q fun b ρ4 ⟨q1, q2⟩ => ⟨fun hb => ?_, fun hb => ?_⟩)⟩
  · refine ev_mono (q1 hb) fun r ρ5 ⟨d, ρ6, a, hp, ed, ew⟩ => ⟨d, ρ6, a, ?_, ew⟩
    rw [List.filter_append, List.map_append, ed]
    simp [List.filter_cons, hp]
  · obtain ⟨hp, ew⟩ := q2 hb
    refine ⟨?_, ew⟩
    rw [List.filter_append, List.map_append]
    simp [List.filter_cons, hp]
theorem x_par2 {i j : Nat} (hij : i ≠ j) (hi : np ≤ i) (hj : np ≤ j) (h : ev ta ρ fun r1 ρ1 => ev tb ρ1 fun r2 ρ2 => ∃ R1, r1 = .val R1 ∧ ∃ R2, r2 = .val R2 ∧ n ((ρ2.set i (some R1)).set j (some R2))) : ex np (tPar i j (tCons ta (tCons tb tNil))) ρ ⟨n, r, b, c⟩ :=
  x_par hij hi hj (evA_cons (ev_mono h fun r1 ρ1 h1 => evA_cons (ev_mono h1 fun r2 ρ2 ⟨R1, e1, R2, e2, q⟩ => evA_nil ⟨r1, r2, rfl, R1, R2, e1, e2, q⟩)))
theorem tgs_consN {i : Nat} {l : List Nat} {gs : TGs} {d : PyData} {ds : List PyData} {Qm : MS → Prop} (h : tg [i] (gName i) (.val (dat K d)) ρ fun ρ1 => tgs K l gs ds ρ1 Qm) : tgs K (i :: l) (gCons (gName i) gs) (d :: ds) ρ Qm := tgs_cons (l1 := [i]) h
theorem x_asg2 {i j m : Nat} (hi : np ≤ i) (hj : np ≤ j) (h : ev te ρ fun r ρ1 => tg [i, j] (gTup K m (gCons (gName i) (gCons (gName j) gNil))) r ρ1 n) : ex np (tAsg te (gTup K m (gCons (gName i) (gCons (gName j) gNil)))) ρ ⟨n, r, b, c⟩ := x_asgT h fun x hx => by
  simp only [List.mem_cons, List.not_mem_nil, or_false] at hx
  rcases hx with rfl | rfl <;> assumption
theorem x_asg3 {i j l m : Nat} (hi : np ≤ i) (hj : np ≤ j) (hl : np ≤ l) (h : ev te ρ fun r ρ1 => tg [i, j, l] (gTup K m (gCons (gName i) (gCons (gName j) (gCons (gName l) gNil)))) r ρ1 n) : ex np (tAsg te (gTup K m (gCons (gName i) (gCons (gName j) (gCons (gName l) gNil))))) ρ ⟨n, r, b, c⟩ := x_asgT h fun x hx => by
  simp only [List.mem_cons, List.not_mem_nil, or_false] at hx
  rcases hx with rfl | rfl | rfl <;> assumption
/-! ### rows -/
theorem op_ixR0 {r1 r2 : Rt} {x : K24.Row} (h1 : rd K ρ r1 (K24.rowD x)) (h2 : rd K ρ r2 (.int 0)) (q : Q (.val (dat K (.int x.1))) ρ) : opR (rIxT K) r1 r2 ρ Q := op_ixT (ds := [.int x.1, .str x.2.1, .int x.2.2]) h1 h2 rfl q
theorem op_ixR1 {r1 r2 : Rt} {x : K24.Row} (h1 : rd K ρ r1 (K24.rowD x)) (h2 : rd K ρ r2 (.int 1)) (q : Q (.val (dat K (.str x.2.1))) ρ) : opR (rIxT K) r1 r2 ρ Q := op_ixT (ds := [.int x.1, .str x.2.1, .int x.2.2]) h1 h2 rfl q
theorem op_ixR2 {r1 r2 : Rt} {x : K24.Row} (h1 : rd K ρ r1 (K24.rowD x)) (h2 : rd K ρ r2 (.int 2)) (q : Q (.val (dat K (.int x.2.2))) ρ) : opR (rIxT K) r1 r2 ρ Q := op_ixT (ds := [.int x.1, .str x.2.1, .int x.2.2]) h1 h2 rfl q
theorem tg_row {l : List Nat} {g : TGs} {x : K24.Row} {Qm : MS → Prop} (h : tgs K l g [.int x.1, .str x.2.1, .int x.2.2] ρ Qm) : tg l (gTup K 3 g) (.val (dat K (K24.rowD x))) ρ Qm := tg_tup (ds := [.int x.1, .str x.2.1, .int x.2.2]) rfl h
/-! ### calls by their places -/
theorem c_zero {M : MSp} (Ps : List Pd) (h : M (Ps.map pu) fun R _ => Q (.val R) ρ) : call0 M (Ps.map fun P => Rt.val (pu P)) ρ Q := ⟨Ps, rfl, h⟩
theorem c_one {M : MSp} {i : Nat} {R0 : Res} (Ps : List Pd) (e : ρ[i]? = some (some R0)) (h : M (R0 :: Ps.map pu) fun R Rs' => ∃ R0', Rs' = [R0'] ∧ Q (.val R) (ρ.set i (some R0'))) : call1 M (Rt.at i :: Ps.map fun P => Rt.val (pu P)) ρ Q := ⟨i, R0, Ps, rfl, e, h⟩
theorem c_draw {i m : Nat} {many : Int} (e : ρ[i]? = some (some (deck m))) (h1 : 1 ≤ many) (h2 : many < 2 ^ 30) (h3 : m < 2 ^ 40) (q : ∀ k : Int, 0 ≤ k → k < many → Q (.val (dat K (.int k))) (ρ.set i (some (deck (m + 1))))) : call1 (drawM K) [Rt.at i, Rt.val (dat K (.int many))] ρ Q :=
  c_one [datP K (.int many)] e ⟨m, many, rfl, h1, h2, h3, fun k k0 k1 => ⟨_, rfl, q k k0 k1⟩⟩
theorem c_pickL {i m : Nat} {ds : List PyData} (e : ρ[i]? = some (some (deck m))) (h1 : 1 ≤ ds.length) (h2 : ds.length < 2 ^ 30) (h3 : m < 2 ^ 40) (q : ∀ d ∈ ds, Q (.val (dat K d)) (ρ.set i (some (deck (m + 1))))) : call1 (pickM K) [Rt.at i, Rt.val (dat K (.list ds))] ρ Q :=
  c_one [datP K (.list ds)] e ⟨m, ds, _, rfl, .inl rfl, h1, h2, h3, fun d hd => ⟨_, rfl, q d hd⟩⟩
theorem c_pickT {i m : Nat} {ds : List PyData} (e : ρ[i]? = some (some (deck m))) (h1 : 1 ≤ ds.length) (h2 : ds.length < 2 ^ 30) (h3 : m < 2 ^ 40) (q : ∀ d ∈ ds, Q (.val (dat K d)) (ρ.set i (some (deck (m + 1))))) : call1 (pickM K) [Rt.at i, Rt.val (dat K (.tuple ds))] ρ Q :=
  c_one [datP K (.tuple ds)] e ⟨m, ds, _, rfl, .inr rfl, h1, h2, h3, fun d hd => ⟨_, rfl, q d hd⟩⟩
end
end ML

/-! sorted(set(..)) of rows, of ints. -/
namespace ML
open PySem L2 KS GL LB
open K24 (Row rowD rowV rowRefs RowsAt keyed keyed_refs unkey key_mem rowK alike_rows)
open PySem.Spec hiding Row
open PyProof.Rows hiding cnt
section
variable {K : PySem.W.Frag} {ρ : MS} {Q : Rt → MS → Prop} {ta : TE} {P : Program} {w : World}
theorem nodup_keys : ∀ l : List Row, (l.map rowK).Nodup → l.Nodup := by
  intro l
  induction l with
  | nil => exact fun _ => List.nodup_nil
  | cons x l ih =>
    intro h
    rw [List.map_cons, List.nodup_cons] at h
    exact List.nodup_cons.mpr ⟨fun hx => h.1 (List.mem_map.mpr ⟨x, hx, rfl⟩), ih h.2⟩
theorem da_rows {H : Hp} : ∀ {rs : List (Addr × Row)}, RowsAt K H rs → DaAll K H (rowRefs rs) ((rs.map (·.2)).map rowD)
  | [], _ => .nil
  | p :: rs, h => .cons (.tup (h p List.mem_cons_self) (.cons (.int _) (.cons (.str _) (.cons (.int _) .nil)))) (da_rows fun q hq => h q (List.mem_cons_of_mem _ hq))
theorem ev_sset_rows (h : ev ta ρ fun r ρ1 => ∃ R : List Row, rd K ρ1 r (.list (R.map rowD)) ∧ R.length ≤ 76 ∧ ∀ R' : List Row, (R'.Pairwise fun a b => W.dataLt (rowD b) (rowD a) = false) → R'.Nodup → (∀ x, x ∈ R' ↔ x ∈ R) → Q (.val (lo K (R'.map rowD))) ρ1) :
    ev (tCB (rSortedK K P w) (tCons (tCB (rSetK K P w) (tCons ta tNil)) tNil)) ρ Q := by
  intro σ H0 H G k S hk
  refine h σ H0 H G _ S fun r1 ρ1 v1 f1 H1 H1' ⟨R, hr, hl, q⟩ p1 => ?_
  obtain ⟨a, xs, rfl, ha, hx⟩ := hr.list p1.sat p1.rt
  obtain ⟨rs, rfl, hrs, hR⟩ := unrow hx
  have S1 := p1.sat.frame (G' := G) fun _ => .inl
  refine ⟨a, keyed rs, rfl, by rw [keyed_refs]; exact .inl (.inl ha), fun z hz => ?_, by unfold keyed; rw [List.length_map, ← List.length_map (f := (·.2)) (as := rs), hrs]; exact hl, fun z LL hz L1 L2 L3 => ?_⟩
  · obtain ⟨r, hr', rfl⟩ := List.mem_map.mp hz
    exact sameT S1.same (hR r hr')
  have zG : ¬ G z := fun e => (S1.fr z e).1 hz
  obtain ⟨rs1, rfl, hs1⟩ := unkey L1
  have Sz := S1.new (o := KSetO P w z (keyed rs1)) hz
  have s0 := same_upd (o := KSetO P w z (keyed rs1)) (S1.same.free hz)
  have hR1 : RowsAt K (upd H1 z (KSetO P w z (keyed rs1))) rs1 := fun x hx => sameT s0 (hR x (hs1 x hx))
  refine ⟨z, keyed rs1, rfl, upd_same, fun x hx => ?_, fun x hx x' hx' => ?_, fun x hx => ?_, fun L' b pm ln hl76 pw hb => ?_⟩
  · obtain ⟨r, hr', rfl⟩ := List.mem_map.mp hx
    exact sameT Sz.same (hR1 r hr')
  · obtain ⟨r, _, rfl⟩ := List.mem_map.mp hx
    obtain ⟨r', _, rfl⟩ := List.mem_map.mp hx'
    exact alike_rows _ _
  · obtain ⟨r, _, rfl⟩ := List.mem_map.mp hx
    exact List.cons_ne_nil _ _
  obtain ⟨rs2, rfl, hs2⟩ := unkey (rs := rs1) (L := L') fun x hx => pm.mem_iff.mp hx
  rw [keyed_refs]
  have hall : ∀ r, r ∈ rs2.map (·.2) ↔ r ∈ R := fun r => by
    rw [← hrs]
    constructor
    · intro h
      obtain ⟨x, hx, e⟩ := List.mem_map.mp h
      exact List.mem_map.mpr ⟨x, hs1 x (hs2 x hx), e⟩
    · intro h
      have h1 := key_mem.mpr h
      obtain ⟨x, hx, e⟩ := List.mem_map.mp h1
      have h2 := L2 x hx
      rw [e] at h2
      exact key_mem.mp ((pm.map (·.2)).mem_iff.mpr h2)
  have nd2 : (rs2.map (·.2)).Nodup := by
    have : (keyed rs2).map (·.2) = (rs2.map (·.2)).map rowK := by
      unfold keyed
      rw [List.map_map, List.map_map]
      rfl
    rw [this] at ln
    exact nodup_keys _ ln
  have pw2 : (rs2.map (·.2)).Pairwise fun a b => W.dataLt (rowD b) (rowD a) = false := by
    unfold keyed at pw
    exact List.pairwise_map.mpr (List.pairwise_map.mp pw)
  have P := post_own Sz hb (da_rows (rs := rs2) fun x hx => hR1 x (hs2 x hx))
  refine hk _ ρ1 _ _ _ _ (q _ pw2 nd2 hall) ⟨⟨(p1.ext.s0.trans s0).trans P.ext.s0, fun b hb => ?_⟩, P.rt, P.dis, P.sat⟩
  rw [P.ext.fr b hb, upd_ne (show b ≠ z from fun e => zG (e ▸ hb)), p1.ext.fr b hb]
/-- .. of ints, fewer than 64 different ones -/
theorem ev_sset_ints (h : ev ta ρ fun r ρ1 => ∃ (ns M : List Int), rd K ρ1 r (.list (ns.map .int)) ∧ ns.length ≤ 4000 ∧ (∀ x ∈ ns, x ∈ M) ∧ M.length < 64 ∧ ∀ ns' : List Int, ns'.Pairwise (· < ·) → (∀ x, x ∈ ns' ↔ x ∈ ns) → Q (.val (lo K (ns'.map .int))) ρ1) :
    ev (tCB (rSortedSet w) (tCons (tCB (rSetJ K w) (tCons ta tNil)) tNil)) ρ Q := by
  intro σ H0 H G k S hk
  refine h σ H0 H G _ S fun r1 ρ1 v1 f1 H1 H1' ⟨ns, M, hr, hl, hM, hM64, q⟩ p1 => ?_
  obtain ⟨a, xs, rfl, ha, hx⟩ := hr.list p1.sat p1.rt
  obtain rfl := hx.toInts
  have S1 := p1.sat.frame (G' := G) fun _ => .inl
  refine ⟨a, ns, rfl, .inl (.inl ha), hl, fun z c hz hc => ?_⟩
  have zG : ¬ G z := fun e => (S1.fr z e).1 hz
  have Sz := S1.new (o := SetO w z (fun j => decide (j ∈ ns)) c) hz
  have s0 := same_upd (o := SetO w z (fun j => decide (j ∈ ns)) c) (S1.same.free hz)
  refine ⟨z, _, c, rfl, upd_same, Nat.lt_of_le_of_lt (hc M hM) hM64, fun ns' b pw hmem _ hb => ?_⟩
  have P := post_own (K := K) Sz hb (DaAll.ints (K := K) ns')
  refine hk _ ρ1 _ _ _ _ (q ns' pw fun x => by rw [hmem x, decide_eq_true_eq]) ⟨⟨(p1.ext.s0.trans s0).trans P.ext.s0, fun b hb => ?_⟩, P.rt, P.dis, P.sat⟩
  rw [P.ext.fr b hb, upd_ne (show b ≠ z from fun e => zG (e ▸ hb)), p1.ext.fr b hb]
end
end ML

/-! Dicts whose keys are None, ints and texts: written, asked for a key, changed. -/
namespace LB
open PySem PySem.Spec PyProof.Rows L2 KS GL
abbrev KN := Option Key
def kN : KN → V
  | none => .non
  | some k => kV k
theorem kN_is {P : Program} {w : World} {k : KN} {u : Value} (r : RelV (kN k) u) : (noneKind P w).is k u = true := by
  cases k with
  | none =>
    obtain rfl : u = Value.none := r
    rfl
  | some k => exact kV_is (P := P) (w := w) r
def NDo (P : Program) (w : World) (a : Addr) (kvs : List (KN × V)) : HO := .ext fun h => kvs.length ≤ sizeLine ∧ (a == sysModules) = false ∧ ∃ vs, KV kvs vs ∧ h.DictOf (noneKind P w) a vs
section
variable {P : Program} {w : World} {H : Hp} {h : Heap} {a : Addr} {kvs : List (KN × V)}
theorem nd_of (ok : HOk P w H h) (e : H a = some (NDo P w a kvs)) : kvs.length ≤ sizeLine ∧ (a == sysModules) = false ∧ ∃ vs, KV kvs vs ∧ h.DictOf (noneKind P w) a vs :=
  (show ObjOk P w H h a (NDo P w a kvs) from ok a _ e).1
theorem nd_new {vs : List (KN × Value)} (z : kvs.length ≤ sizeLine) (hd : (a == sysModules) = false) (rel : KV kvs vs) (dd : h.DictOf (noneKind P w) a vs) : ObjOk P w H h a (NDo P w a kvs) := by
  refine ⟨⟨z, hd, vs, rel, dd⟩, ?_, ?_⟩
  · obtain ⟨o, _, _, ho, _⟩ := dd
    exact ⟨o, ho⟩
  · rintro h1 h2 ⟨z, hd, vs, rel, o, es, ep, ho, r⟩ k
    exact ⟨z, hd, vs, rel, o, es, ep, k o ho, r⟩
theorem nd_empty (d : h.DictOf (mixKind P w) a []) : h.DictOf (noneKind P w) a [] := by
  obtain ⟨o, es, ep, ho, hx, hdt, hk, hp, hn⟩ := d
  have e : es.toList = [] := by
    cases hz : es.toList with
    | nil => rfl
    | cons z zs => rw [hz] at hp; cases hp
  refine ⟨o, es, ep, ho, hx, hdt, fun z hz => ?_, ?_, List.nodup_nil⟩
  · have : z ∈ es.toList := by simpa using hz
    rw [e] at this
    cases this
  · rw [e]
    exact .nil
end
def mergeN (kvs more : List (KN × V)) : List (KN × V) := more.foldl (fun acc kv => putK acc kv.1 kv.2) kvs
theorem kv_mergeN : ∀ {more : List (KN × V)} {rs : List (KN × Value)} {kvs : List (KN × V)} {vs : List (KN × Value)}, KV more rs → KV kvs vs → KV (mergeN kvs more) (merged vs rs) := by
  intro more rs kvs vs r
  unfold KV at r
  induction r generalizing kvs vs with
  | nil => exact fun q => q
  | @cons p q ps qs h t ih =>
    intro r0
    have e := r0.put p.1 h.2
    rw [h.1] at e
    exact ih (kvs := putK kvs q.1 p.2) e |> fun z => by
      unfold mergeN
      rw [List.foldl_cons, h.1]
      exact z
theorem len_mergeN : ∀ (more kvs : List (KN × V)), (mergeN kvs more).length ≤ kvs.length + more.length
  | [], kvs => Nat.le_refl _
  | p :: r, kvs => by
    have h1 := len_mergeN r (putK kvs p.1 p.2)
    have h2 := length_putK kvs p.1 p.2
    unfold mergeN at h1 ⊢
    rw [List.foldl_cons, List.length_cons]
    omega
theorem carriesN {P : Program} {w : World} : ∀ {kvs : List (KN × V)} {ws : List (Value × Value)}, VV (kvs.map fun kv => (kN kv.1, kv.2)) ws → ∃ rs, Carries (noneKind P w) ws rs ∧ KV kvs rs
  | [], _, r => by
    rw [List.map_nil] at r
    cases r
    exact ⟨[], True.intro, .nil⟩
  | p :: kvs, _, r => by
    rw [List.map_cons] at r
    cases r with
    | @cons x b xs bs h t =>
      obtain ⟨rs, c, q⟩ := carriesN (P := P) (w := w) t
      exact ⟨(p.1, b.2) :: rs, ⟨kN_is h.1, rfl, c⟩, .cons ⟨rfl, h.2⟩ q⟩
/-- {k: v, ..}; the new dict stands empty while the pairs are made -/
def tDispN (P : Program) (w : World) (trs : List (TE × TE)) : TE := fun σ H Q => ∀ p, H p = none → tPairs trs σ (upd H p (.dK [])) fun ps H2 => H2 p = some (.dK []) ∧
  ∃ kvs : List (KN × V), ps = kvs.map (fun kv => (kN kv.1, kv.2)) ∧ kvs.length ≤ 15 ∧ Q (.ref p) (upd H2 p (NDo P w p (mergeN [] kvs)))
/-- y not in d -/
def tNinN (P : Program) (w : World) (ty td : TE) : TE := fun σ H Q => ty σ H fun y H1 => td σ H1 fun x H2 => ∃ a kvs k, x = .ref a ∧ y = kN k ∧ H2 a = some (NDo P w a kvs) ∧ Q (.bl (!(valV kvs k).isSome)) H2
/-- d[y] = v -/
def sPutN (P : Program) (w : World) (td ty tv : TE) : TS := fun D σ H => tv σ H fun v H1 => td σ H1 fun x H2 => ty σ H2 fun y H3 => ∃ a kvs k, x = .ref a ∧ y = kN k ∧ H3 a = some (NDo P w a kvs) ∧ kvs.length < sizeLine ∧
  D.nx σ (upd H3 a (NDo P w a (putK kvs k v)))
section
variable {X : Cx} {pos pos' : Pos} {o i value : Expr} {td ty tv : TE}
theorem pe_dispN {keys : List (Option Expr)} {values : List Expr} {trs : List (TE × TE)} (h : PPs X pos keys values trs) (hall : keys.all (·.isSome) = true) (hl : keys.length = values.length) (h0 : keys ≠ []) (h15 : keys.length ≤ 15) :
    PE X (.Dict keys values pos) (tDispN X.prog X.w trs) := by
  refine ⟨fun pins s σ H Q I q => ?_⟩
  have hn := I.hok.fresh (Nat.le_refl s.heap.objs.size)
  have I1 := I.laid (a := s.heap.objs.size) (o := .dK []) (h' := s.heap.push { cls := .type "dict", data := .dict #[] }) (t' := s.toks) (fun _ _ q => Heap.get?_push_of_some _ q) (Nat.le_refl _) (dk_empty s.heap I.big)
  refine wpAny_Dict_walk (knd := noneKind X.prog X.w) hall hl h0 h15 (thn (h.run pins _ σ _ _ I1 (q _ hn)) fun ws s2 ⟨ps, H2, I2, rel, e, kvs, ep, lk, q2⟩ => ?_)
  subst ep
  obtain ⟨rs, c, rk⟩ := carriesN (P := X.prog) (w := X.w) rel
  obtain ⟨z, hd, vs0, r0, dd⟩ := dk_of I2.hok e
  cases r0
  refine ⟨rs, c, nd_empty dd, fun h' dd' hs => ⟨.ref s.heap.objs.size, _, ?_, rfl, q2⟩⟩
  have hz : (mergeN [] kvs).length ≤ sizeLine := by
    have h1 := len_mergeN kvs []
    rw [List.length_nil] at h1
    rw [sizeLine_eq]
    omega
  have he : ∃ q, h'.get? s.heap.objs.size = some q := by
    obtain ⟨q, _, _, hq, _⟩ := dd'
    exact ⟨q, hq⟩
  exact d_write I2 (by rw [e]; exact True.intro) hs he (nd_new hz hd (kv_mergeN rk .nil) dd')
theorem pc_ninN (hi : PE X i ty) (ho : PE X o td) : PC X .NotIn i o (tNinN X.prog X.w ty td) := by
  refine ⟨fun pins s σ H Q I h => ?_⟩
  refine thn (hi.run pins s σ H _ I h) fun iv s1 ⟨y, H1, I1, ry, q1⟩ => thn (ho.run pins s1 σ H1 _ I1 q1) fun u s2 ⟨x, H2, I2, rx, a, kvs, k, ex, ey, g, q2⟩ => ?_
  subst ex ey
  obtain rfl : u = Value.ref a := rx
  obtain ⟨z, hd, vs, rel, dd⟩ := nd_of I2.hok g
  refine wpAny_notIn_of (kN_is ry) hd dd.mapOf ?_
  rw [← (rel.val k).isSome_eq]
  exact ⟨.bl (!(valV kvs k).isSome), H2, I2.tok _, rfl, q2⟩
theorem ps_putN (ho : PE X o td) (hi : PE X i ty) (hv : PE X value tv) (hs : swapsWith value (some (.Subscript o i pos')) pos.line X.env = pure false) : PS X (.Assign [.Subscript o i pos'] value pos) (sPutN X.prog X.w td ty tv) := by
  refine ⟨fun pins s σ H D I h => ?_⟩
  refine wpAny_Assign_Subscript (thn (hv.run pins s σ H _ I h) fun r s1 ⟨v, H1, I1, rv, q1⟩ => thn (ho.run pins s1 σ H1 _ I1 q1) fun u s2 ⟨x, H2, I2, rx, q2⟩ => thn (hi.run pins s2 σ H2 _ I2 q2) fun iv s3 ⟨y, H3, I3, ry, a, kvs, k, ex, ey, g, hl, q3⟩ => ?_) hs
  subst ex ey
  obtain rfl : u = Value.ref a := rx
  obtain ⟨z, hd, vs, rel, dd⟩ := nd_of I3.hok g
  have hz : vs.length ≤ sizeLine := by rw [← rel.length]; exact z
  have hp : (putK kvs k v).length ≤ sizeLine := Nat.le_trans (length_putK kvs k v) hl
  refine wpAny_setItem_pairs (hsz := hz) (kN_is ry) dd fun h' dd' sb => ⟨σ, _, ?_, q3⟩
  have he : ∃ q, h'.get? a = some q := by
    obtain ⟨q, _, _, hq, _⟩ := dd'
    exact ⟨q, hq⟩
  exact d_write I3 (by rw [g]; exact True.intro) sb he (nd_new hp hd (rel.put k rv) dd')
end
end LB

/-! More of the mirror: many names at once, dicts with None among the keys, lists or tuples, what an old promise hands back. -/
namespace ML
open PySem PySem.Spec PyProof.Rows L2 KS GL LB
/-! ### many names at once -/
def setAll (ρ : MS) : List Nat → List Res → MS
  | i :: l, R :: Rs => setAll (ρ.set i (some R)) l Rs
  | _, _ => ρ
def namesG : List Nat → TGs
  | [] => gNil
  | i :: l => gCons (gName i) (namesG l)
section
variable {K : PySem.W.Frag} {np : Nat} {n b c : MS → Prop} {r : Rt → MS → Prop} {ρ : MS}
theorem names_go {H0 H : Hp} {G : FP} {Q : L2.St → Hp → Prop} : ∀ {l : List Nat} {Rs : List Res} {ρ : MS} {σ0 σ : L2.St} {vs : List V} {f : FP}, Rs.length = l.length → RtsH (Rs.map Rt.val) σ0 H0 H vs f → Sat ρ σ H0 H (fun a => G a ∨ f a) → (∀ a, f a → ¬ G a) → (∀ i ∈ l, np ≤ i) →
    (∀ σ', σ'.take np = σ.take np → Sat (setAll ρ l Rs) σ' H0 H G → Q σ' H) → vs.length = l.length ∧ namesG l vs σ H Q
  | [], [], ρ, σ0, σ, vs, f, _, h, S, _, _, q => by
    obtain ⟨rfl, hf⟩ := h
    exact ⟨rfl, rfl, q σ rfl (S.frame fun _ => .inl)⟩
  | i :: l, R :: Rs, ρ, σ0, σ, vs, f, e, h, S, d, hn, q => by
    obtain ⟨v, vs', f1, f2, rfl, h1, h2, hf, hd⟩ := h
    have S1 : Sat ρ σ H0 H fun a => (G a ∨ f2 a) ∨ f1 a := S.frame fun a ha => by
      rcases ha with (ha | ha) | ha
      · exact .inl ha
      · exact .inr ((hf a).mpr (.inr ha))
      · exact .inr ((hf a).mpr (.inl ha))
    have S2 := S1.set (i := i) h1 fun a ha hb => hb.elim (d a ((hf a).mpr (.inl ha))) (hd a ha)
    obtain ⟨e2, q2⟩ := names_go (l := l) (Rs := Rs) (Nat.succ.inj e) h2 S2 (fun a ha => d a ((hf a).mpr (.inr ha))) (fun j hj => hn j (List.mem_cons_of_mem _ hj)) fun σ' ht S' => q σ' (ht.trans (take_set (hn i List.mem_cons_self))) S'
    exact ⟨by rw [List.length_cons, List.length_cons, e2], v, vs', rfl, q2⟩
theorem x_asgN {l : List Nat} {ta : TA} (hn : ∀ i ∈ l, np ≤ i) (hl : l.length ≤ 100) (h : evA ta ρ fun rs ρ1 => ∃ Rs, rs = Rs.map Rt.val ∧ Rs.length = l.length ∧ n (setAll ρ1 l Rs)) : ex np (tAsg (tTup ta) (gTup K l.length (namesG l))) ρ ⟨n, r, b, c⟩ := by
  intro σ H0 H G D S kn _ _ _
  refine h σ H0 H G _ S fun rs ρ1 vs f H1 H1' ⟨Rs, e, el, q⟩ p => ?_
  subst e
  have go : ∀ {H2 H2' : Hp}, Ext G H0 H H2 H2' → RtsH (Rs.map Rt.val) σ H2 H2' vs f → Sat ρ1 σ H2 H2' (fun a => G a ∨ f a) → vs.length = l.length ∧ namesG l vs σ H2' D.nx := fun {H2 H2'} x h2 S2 =>
    names_go el h2 S2 p.dis hn fun σ' ht S' => kn _ σ' H2 H2' q ht x S'
  have lv := (go p.ext p.rt p.sat).1
  refine ⟨by rw [lv]; exact Nat.le_trans hl (by decide), fun t ht => ⟨t, vs, rfl, .inl (.inl upd_same), lv, ?_⟩⟩
  have ft : ∀ a, f a → a ≠ t := fun a ha e => (p.sat.fr a (.inr ha)).1 (by rw [e]; exact ht)
  have h0 := p.sat.same.free ht
  refine (go ⟨p.ext.s0.trans (same_upd h0), fun a ha => ?_⟩ (RtsH.loc (same_upd (o := .tup vs) h0) p.rt fun a ha => ⟨upd_ne (ft a ha), by rw [upd_ne (ft a ha)]; exact (p.sat.fr a (.inr ha)).2⟩) (p.sat.new ht)).2
  have at' : a ≠ t := fun e => (p.sat.fr a (.inl ha)).1 (by rw [e]; exact ht)
  rw [upd_ne at']
  exact p.ext.fr a ha
theorem x_parT2 {i j : Nat} {ta tb : TE} (hi : np ≤ i) (hj : np ≤ j) (h : ev ta ρ fun r1 ρ1 => ev tb ρ1 fun r2 ρ2 => ∃ R1, r1 = .val R1 ∧ ∃ R2, r2 = .val R2 ∧ n ((ρ2.set i (some R1)).set j (some R2))) :
    ex np (tAsg (tTup (tCons ta (tCons tb tNil))) (gTup K 2 (gCons (gName i) (gCons (gName j) gNil)))) ρ ⟨n, r, b, c⟩ := by
  refine x_asgN (l := [i, j]) (fun x hx => ?_) (show 2 ≤ 100 by decide) (evA_cons (ev_mono h fun r1 ρ1 h1 => evA_cons (ev_mono h1 fun r2 ρ2 h2 => evA_nil ?_)))
  · simp only [List.mem_cons, List.not_mem_nil, or_false] at hx
    rcases hx with rfl | rfl <;> assumption
  · obtain ⟨R1, rfl, R2, rfl, q⟩ := h2
    exact ⟨[R1, R2], rfl, rfl, q⟩
theorem x_par4 {i j k l : Nat} {ta tb tc td : TE} (hi : np ≤ i) (hj : np ≤ j) (hk : np ≤ k) (hl : np ≤ l)
    (h : ev ta ρ fun r1 ρ1 => ev tb ρ1 fun r2 ρ2 => ev tc ρ2 fun r3 ρ3 => ev td ρ3 fun r4 ρ4 => ∃ R1, r1 = .val R1 ∧ ∃ R2, r2 = .val R2 ∧ ∃ R3, r3 = .val R3 ∧ ∃ R4, r4 = .val R4 ∧ n ((((ρ4.set i (some R1)).set j (some R2)).set k (some R3)).set l (some R4))) :
    ex np (tAsg (tTup (tCons ta (tCons tb (tCons tc (tCons td tNil))))) (gTup K 4 (gCons (gName i) (gCons (gName j) (gCons (gName k) (gCons (gName l) gNil)))))) ρ ⟨n, r, b, c⟩ := by
  refine x_asgN (l := [i, j, k, l]) (fun x hx => ?_) (show 4 ≤ 100 by decide) (evA_cons (ev_mono h fun r1 ρ1 h1 => evA_cons (ev_mono h1 fun r2 ρ2 h2 => evA_cons (ev_mono h2 fun r3 ρ3 h3 => evA_cons (ev_mono h3 fun r4 ρ4 h4 => evA_nil ?_)))))
  · simp only [List.mem_cons, List.not_mem_nil, or_false] at hx
    rcases hx with rfl | rfl | rfl | rfl <;> assumption
  · obtain ⟨R1, rfl, R2, rfl, R3, rfl, R4, rfl, q⟩ := h4
    exact ⟨[R1, R2, R3, R4], rfl, rfl, q⟩
end
/-! ### dicts with None among the keys; only the keys are told -/
def keyN : KN → PyData
  | none => .none
  | some k => keyD k
theorem keyN_da {K : PySem.W.Frag} {H : Hp} {k : KN} {v : V} (h : Da K H v (keyN k)) : v = kN k := by
  cases k with
  | none =>
    cases h
    rfl
  | some k => exact key_da h
def hasN (ks : List KN) (k : KN) : Bool := ks.any fun j => decide (j = k)
theorem hasN_add (ks ls : List KN) (k : KN) : hasN (ks ++ ls) k = (hasN ks k || hasN ls k) := List.any_append
theorem hasN_one (j k : KN) : hasN [j] k = decide (j = k) := by simp [hasN]
def KeysN (kvs : List (KN × V)) (ks : List KN) : Prop := kvs.length ≤ ks.length ∧ ∀ k, (valV kvs k).isSome = hasN ks k
theorem KeysN.put {kvs : List (KN × V)} {ks : List KN} (h : KeysN kvs ks) (k : KN) (v : V) : KeysN (putK kvs k v) (ks ++ [k]) := by
  refine ⟨Nat.le_trans (length_putK kvs k v) (by rw [List.length_append]; exact Nat.succ_le_succ h.1), fun j => ?_⟩
  rw [valV_put, hasN_add, hasN_one]
  by_cases e : j = k
  · rw [if_pos e, decide_eq_true e.symm, Bool.or_true]
    rfl
  · rw [if_neg e, h.2 j, decide_eq_false fun z => e z.symm, Bool.or_false]
theorem KeysN.merge : ∀ {more kvs : List (KN × V)} {ks : List KN}, KeysN kvs ks → KeysN (mergeN kvs more) (ks ++ more.map (·.1))
  | [], kvs, ks, h => by
    rw [List.map_nil, List.append_nil]
    exact h
  | p :: r, kvs, ks, h => by
    have := KeysN.merge (more := r) (h.put p.1 p.2)
    rw [List.append_assoc] at this
    exact this
def dn (P : Program) (w : World) (ks : List KN) : Res := ⟨fun H0 H v f => ∃ a kvs, v = .ref a ∧ (∀ z, f z ↔ z = a) ∧ H0 a = none ∧ H a = some (NDo P w a kvs) ∧ KeysN kvs ks,
  fun {H0 H0' H H' v f} ⟨a, xs, e, hf, h1, h2, h3⟩ s hk => ⟨a, xs, e, hf, (hk a ((hf a).mpr rfl)).2, by rw [(hk a ((hf a).mpr rfl)).1]; exact h2, h3⟩,
  fun {H0 H v f z} ⟨a, xs, e, hf, h1, h2, h3⟩ hz => by
    obtain rfl := (hf z).mp hz
    exact ⟨by rw [h2]; exact Option.some_ne_none _, h1⟩⟩
section
variable {P : Program} {w : World} {K : PySem.W.Frag} {ρ : MS} {Q : Rt → MS → Prop} {ta tb td ty tv : TE} {np : Nat} {n b c : MS → Prop} {r : Rt → MS → Prop}
/-- a written dict's pairs -/
def evPsN (K : PySem.W.Frag) (trs : List (TE × TE)) (ρ : MS) (Q : List KN → MS → Prop) : Prop := ∀ (σ : L2.St) (H0 H : Hp) (G : FP) (k : List (V × V) → Hp → Prop), Sat ρ σ H0 H G →
  (∀ m ρ' ps H0' H', Q m ρ' → Ext G H0 H H0' H' → (∃ vs : List (KN × V), ps = vs.map (fun kv : KN × V => (kN kv.1, kv.2)) ∧ vs.map (·.1) = m) → Sat ρ' σ H0' H' G → k ps H') → tPairs trs σ H k
theorem evPsN_nil {Q : List KN → MS → Prop} (q : Q [] ρ) : evPsN K [] ρ Q := fun σ H0 H G k S hk => hk [] ρ [] H0 H q Ext.refl ⟨[], rfl, rfl⟩ S
theorem evPsN_cons {trs : List (TE × TE)} {Q : List KN → MS → Prop} (h : ev ta ρ fun r ρ1 => ∃ x, r = .val (dat K (keyN x)) ∧ ev tb ρ1 fun r2 ρ2 => ∃ d, r2 = .val (dat K d) ∧ evPsN K trs ρ2 fun m ρ4 => Q (x :: m) ρ4) : evPsN K ((ta, tb) :: trs) ρ Q := by
  intro σ H0 H G k S hk
  refine h σ H0 H G _ S fun r1 ρ1 v1 f1 H1 H1' ⟨x, e, h1⟩ p1 => ?_
  subst e
  have hv := keyN_da p1.rt.1
  subst hv
  refine h1 σ H1 H1' G _ (p1.sat.frame fun _ => .inl) fun r2 ρ2 v2 f2 H2 H2' ⟨d, ed, h2⟩ p2 => ?_
  refine h2 σ H2 H2' G _ (p2.sat.frame fun _ => .inl) fun m ρ4 ps H4 H4' h4 e4 ⟨vs, ep, hvs⟩ S4 => ?_
  subst ep
  exact hk _ ρ4 _ H4 H4' h4 ((p1.ext.trans p2.ext).trans e4) ⟨(x, v2) :: vs, rfl, by rw [List.map_cons, hvs]⟩ S4
theorem ev_dispN {trs : List (TE × TE)} (h : evPsN K trs ρ fun m ρ1 => m.length ≤ 15 ∧ Q (.val (dn P w m)) ρ1) : ev (tDispN P w trs) ρ Q := by
  intro σ H0 H G k S hk p hp
  have hG : ¬ G p := fun e => (S.fr p e).1 hp
  refine h σ H0 (upd H p (.dK [])) (fun a => G a ∨ a = p) _ (S.own hp) fun m ρ1 ps H1 H1' ⟨hl, q⟩ e1 ⟨vs, ep, hvs⟩ S1 => ?_
  subst ep
  have hp1 : H1' p = some (.dK []) := by rw [e1.fr p (.inr rfl), upd_same]
  have lv : vs.length = m.length := by rw [← hvs, List.length_map]
  have km := KeysN.merge (more := vs) (kvs := []) (ks := []) ⟨Nat.le_refl _, fun k => rfl⟩
  rw [List.nil_append, hvs] at km
  refine ⟨hp1, vs, rfl, by rw [lv]; exact hl, hk _ _ _ (fun a => a = p) H1 _ q ⟨⟨e1.s0, fun a ha => ?_⟩, ⟨p, _, rfl, fun _ => Iff.rfl, (S1.fr p (.inr rfl)).2, upd_same, km⟩, fun a e => e ▸ hG, S1.mut (fun a ha => upd_ne ha) fun a ha => ?_⟩⟩
  · have ap : a ≠ p := fun e => hG (e ▸ ha)
    rw [upd_ne ap, e1.fr a (.inl ha), upd_ne ap]
  · rw [ha, upd_same]
    exact Option.some_ne_none _
theorem ev_ninN {i : Nat} (h : ev ty ρ fun r1 ρ1 => ∃ k, r1 = .val (dat K (keyN k)) ∧ ∃ ks, ρ1[i]? = some (some (dn P w ks)) ∧ Q (.val (dat K (.bool (!hasN ks k)))) ρ1) : ev (tNinN P w ty (tVar i)) ρ Q := by
  intro σ H0 H G kk S hk
  refine h σ H0 H G _ S fun r1 ρ1 v1 f1 H1 H1' ⟨k, e, ks, hi, q⟩ p1 => ?_
  subst e
  have hv := keyN_da p1.rt.1
  have S1 : Sat ρ1 σ H1 H1' G := p1.sat.frame fun _ => .inl
  obtain ⟨v, f, ev', ⟨a, kvs, rfl, hf, h1, h2, h3⟩, _⟩ := S1.get hi
  refine ⟨.ref a, ev', a, kvs, k, rfl, hv, h2, ?_⟩
  rw [h3.2 k]
  exact hk _ _ _ _ _ _ q (post_ext p1.ext (post_pure S1 (.bl _)))
theorem x_putN {i : Nat} (h : ev tv ρ fun r1 ρ1 => ∃ d, r1 = .val (dat K d) ∧ (∃ R, ρ1[i]? = some (some R)) ∧ ev ty ρ1 fun r2 ρ2 => ∃ k, r2 = .val (dat K (keyN k)) ∧ ∃ ks, ρ2[i]? = some (some (dn P w ks)) ∧ ks.length < sizeLine ∧ n (ρ2.set i (some (dn P w (ks ++ [k]))))) :
    ex np (sPutN P w (tVar i) ty tv) ρ ⟨n, r, b, c⟩ := by
  intro σ H0 H G D S kn _ _ _
  refine h σ H0 H G _ S fun r1 ρ1 v f1 H1 H1' ⟨d, e, ⟨R, hR⟩, h1⟩ p1 => ?_
  have S1 := p1.sat.frame (G' := G) fun _ => .inl
  obtain ⟨u, _, eu, _⟩ := S1.get hR
  refine ⟨u, eu, h1 σ _ _ G _ S1 fun r2 ρ2 v2 f2 H3 H3' ⟨k, e2, ks, hi, hl, q⟩ p3 => ?_⟩
  subst e2
  obtain rfl := keyN_da p3.rt.1
  have S3 := p3.sat.frame (G' := G) fun _ => .inl
  obtain ⟨u', f', eu', ⟨a, kvs, rfl, hf, h1, h2, h3⟩, d', S4⟩ := S3.take hi
  obtain rfl : V.ref a = u := Option.some.inj (Option.some.inj (eu'.symm.trans eu))
  have hGa : ¬ G a := d' a ((hf a).mpr rfl)
  have S5 : Sat (ρ2.set i none) σ H3 (upd H3' a (NDo P w a (putK kvs k v))) fun z => G z ∨ f' z := S4.mut (fun z hz => upd_ne fun e => hz ((hf z).mpr e)) fun z hz => by
    rw [(hf z).mp hz, upd_same]
    exact Option.some_ne_none _
  have S6 := S5.back (R := dn P w (ks ++ [k])) eu ⟨a, _, rfl, hf, h1, upd_same, h3.put k v⟩ d'
  refine ⟨a, kvs, k, rfl, rfl, h2, Nat.lt_of_le_of_lt h3.1 hl, kn _ σ H3 _ q rfl ⟨p1.ext.s0.trans p3.ext.s0, fun z hz => ?_⟩ S6⟩
  have za : z ≠ a := fun e => hGa (by rw [← e]; exact hz)
  rw [upd_ne za, p3.ext.fr z hz, p1.ext.fr z hz]
/-! ### what is a list or a tuple -/
theorem wkD_seq {C : List PyData → MS → Prop} (h : ev ta ρ fun r ρ1 => ∃ d ds, r = .val (dat K d) ∧ (d = .list ds ∨ d = .tuple ds) ∧ C ds ρ1) : wkD K (iSeq K ta) ρ C := by
  intro σ H0 H G k S hk
  refine h σ H0 H G _ S fun r ρ1 v f H1 H1' ⟨d, ds, e, hd, q⟩ p => ?_
  subst e
  have S1 : Sat ρ1 σ H1 H1' G := p.sat.frame fun _ => .inl
  have fin : ∀ {J : It} {a : Addr} {vs : List V}, DaAll K H1 vs ds → Walk J vs.length (fun H2 => Same H1 H2) (YAt vs) → k J H1' := fun {J a vs} h2 w => by
    refine hk _ (fun i => ds.getD i .none) ρ1 J H1 H1' ⟨ds, rfl, fun _ _ => rfl, q⟩ p.ext S1 ?_
    rw [← h2.len]
    exact w.mono (fun H s => s) fun i H x H' _ _ y => yd_at h2 y
  have hda := p.rt.1
  rcases hd with rfl | rfl
  · cases hda with
    | lst h1 h2 =>
      rename_i a vs
      exact ⟨a, rfl, .inl ⟨⟨vs, .inl (.inl (S1.same _ _ h1))⟩, fin (a := a) h2 ((walk_list (K := K) (a := a) (xs := vs)).mono (fun H s => .inl (.inl (s _ _ h1))) fun i H x H' _ _ y => y)⟩⟩
  · cases hda with
    | tup h1 h2 =>
      rename_i a vs
      exact ⟨a, rfl, .inr ⟨⟨vs, sameT S1.same h1⟩, fin (a := a) h2 ((L2.walk_tup (K := K) (a := a) (xs := vs)).mono (fun H s => sameT s h1) fun i H x H' _ _ y => y)⟩⟩
end
/-! ### what an old promise hands back: all that is new stands -/
def nowH (H0 H H' : Hp) : Hp := fun a => if H a = none then H' a else H0 a
theorem now_same {H0 H H' : Hp} (s : Same H0 H) : Same H0 (nowH H0 H H') := fun a u e => by
  unfold nowH
  rw [if_neg (by rw [s a u e]; exact Option.some_ne_none _)]
  exact e
theorem now_new {H0 H H' : Hp} {a : Addr} (h : H a = none) : nowH H0 H H' a = H' a := if_pos h
theorem now_sub {H0 H H' : Hp} (s0 : Same H0 H) (s : Same H H') : Same (nowH H0 H H') H' := fun a u e => by
  unfold nowH at e
  split at e
  · exact e
  · exact s a u (s0 a u e)
theorem fin_new {ρ : MS} {σ : L2.St} {H0 H H' : Hp} {G : FP} (S : Sat ρ σ H0 H G) (s : Same H H') : Ext G H0 H (nowH H0 H H') H' ∧ Sat [] [] (nowH H0 H H') H' fun a => G a ∨ False := by
  have hG : ∀ a, G a → H' a = H a := fun a ha => by
    cases e : H a with
    | none => exact absurd e (S.fr a ha).1
    | some u => exact s a u e
  refine ⟨⟨now_same S.same, hG⟩, sat_nil (now_sub S.same s) fun a ha => ?_⟩
  have ha := ha.resolve_right id
  have h1 := S.fr a ha
  exact ⟨by rw [hG a ha]; exact h1.1, by unfold nowH; rw [if_neg h1.1]; exact h1.2⟩
end ML

/-! index in a list of whole numbers; sorted of numbers, of ascending rows; tuples put together. -/
namespace K24
open PySem L2 KS GL LB K24m ML
open PySem.Spec hiding Row
open PyProof.Rows hiding cnt
theorem flatV_ints : ∀ ns : List Int, (ns.map V.int).all flatV = true
  | [] => rfl
  | n :: ns => by
    rw [List.map_cons, List.all_cons, flatV_ints ns]
    rfl
theorem idx_first {x : Int} : ∀ {ns : List Int}, x ∈ ns → ns[ns.idxOf x]? = some x ∧ ∀ m, m < ns.idxOf x → ∀ y, ns[m]? = some y → y ≠ x := fun {ns} hx => by
  have h : ns.idxOf x < ns.length := List.idxOf_lt_length_iff.mpr hx
  refine ⟨by rw [List.getElem?_eq_getElem h, List.getElem_idxOf h], fun m hm y hy e => ?_⟩
  subst e
  have hml : m < ns.length := Nat.lt_trans hm h
  rw [List.getElem?_eq_getElem hml] at hy
  have e2 := Option.some.inj hy
  have := List.not_of_lt_findIdx (p := (· == y)) (xs := ns) (i := m) hm
  simp [e2] at this
section
variable {K : PySem.W.Frag} {ρ : MS} {Q : Rt → MS → Prop} {r1 r2 : Rt}
theorem op_index {ns : List Int} {x : Int} {ds : List PyData} (ed : ds = ns.map .int) (h1 : rd K ρ r1 (.list ds)) (h2 : rd K ρ r2 (.int x)) (hx : x ∈ ns) (q : Q (.val (dat K (.int (ns.idxOf x : Nat)))) ρ) : opR (fun v w H k => rIndex K v [w] H k) r1 r2 ρ Q := by
  subst ed
  intro σ H0 H G v1 v2 f1 f2 k S e1 e2 _ _ _ hk
  obtain ⟨a, xs, rfl, ha, hxs⟩ := h1.list S e1
  obtain rfl := h2.int S e2
  obtain rfl := hxs.toInts
  obtain ⟨g1, g2⟩ := idx_first hx
  refine ⟨a, ns.map .int, .int x, ns.idxOf x, .int x, rfl, rfl, .inl (.inl ha), rfl, flatV_ints _, by rw [List.getElem?_map, g1]; rfl, by simp [eqV], fun m z' hm hz => ?_, ?_⟩
  · rw [List.getElem?_map] at hz
    cases e : ns[m]? with
    | none => rw [e] at hz; cases hz
    | some y =>
      rw [e] at hz
      obtain rfl := Option.some.inj hz
      have := g2 m hm y e
      simp [eqV, this]
  · exact hk _ _ _ _ _ _ q (post_sc S (fun a ha => .inl ha) (.int _))
theorem ints_alike (ns : List Int) : W.AllAlike (ns.map PyData.int) := by
  intro a ha b hb
  obtain ⟨x, _, rfl⟩ := List.mem_map.mp ha
  obtain ⟨y, _, rfl⟩ := List.mem_map.mp hb
  rfl
theorem ints_sortable (ns : List Int) : W.Sortable (ns.map PyData.int) := by
  refine Or.inr fun d hd => ?_
  obtain ⟨x, _, rfl⟩ := List.mem_map.mp hd
  refine ⟨?_, ?_⟩
  · intro h
    cases h
  · intro xs h
    cases h
theorem ints_dep (ns : List Int) : ∀ d ∈ ns.map PyData.int, d.depth ≤ 60 := fun d hd => by
  obtain ⟨x, _, rfl⟩ := List.mem_map.mp hd
  show 0 ≤ 60
  omega
theorem un_sortedI {ns : List Int} {ds : List PyData} (ed : ds = ns.map .int) (h : rd K ρ r1 (.list ds)) (nd : ns.Nodup) (q : ∀ ms : List Int, ms.Pairwise (· < ·) → (∀ x, x ∈ ms ↔ x ∈ ns) → ms.length = ns.length → Q (.val (lo K (ms.map .int))) ρ) : unR (fun v H k => rSortedD K [v] H k) r1 ρ Q := by
  subst ed
  refine un_sorted h (ints_alike ns) (ints_sortable ns) (ints_dep ns) fun ds' hp hw => ?_
  obtain ⟨ms, rfl, hm⟩ := perm_map_inv hp rfl
  have hw2 : ms.Pairwise fun a b => ¬ b < a := by
    rw [List.pairwise_map] at hw
    refine hw.imp fun {a b} h z => ?_
    rw [W.dataLt_int, decide_eq_true z] at h
    cases h
  have nd2 : ms.Nodup := hm.nodup_iff.mpr nd
  exact q ms ((List.pairwise_and_iff.mpr ⟨hw2, nd2⟩).imp fun h => by omega) (fun x => hm.mem_iff) hm.length_eq
theorem un_sortedR {R : List Row} {ds : List PyData} (ed : ds = R.map rowD) (h : rd K ρ r1 (.list ds)) (pw : R.Pairwise rowLt) (q : Q (.val (lo K (R.map rowD))) ρ) : unR (fun v H k => rSortedD K [v] H k) r1 ρ Q := by
  subst ed
  refine un_sorted h (rows_alike R) (rows_sortable R) (rows_dep R) fun ds' hp hw => ?_
  obtain ⟨ms, rfl, hm⟩ := perm_map_inv hp rfl
  have nd : R.Nodup := List.Pairwise.imp (R := rowLt) (S := fun a b => a ≠ b) (fun {a b} h z => rowLt_irrefl a (by rw [← z] at h; exact h)) pw
  rw [List.pairwise_map] at hw
  have e : ms = R := sorted_eq (strict_rows hw (hm.nodup_iff.mpr nd)) pw fun x => hm.mem_iff
  rw [e]
  exact q
end
end K24

/-! Charts begun elsewhere: the states reached, numbered anew. Plain Lean. -/
namespace K24
open PySem L2 KS GL LB K24m ML
open CH (outs sucs arrowB ChartOk)
open PySem.Spec hiding Row
open PyProof.Rows hiding cnt
def ren (φ : Int → Int) (r : Row) : Row := (φ r.1, r.2.1, φ r.2.2)
def numb (order : List Int) (x : Int) : Int := if x = -1 then -1 else (order.idxOf x : Int)
def orderOf (st : Int) (near : List Int) : List Int := st :: near.filter fun x => decide (x ≠ st)
structure Near (R : List Row) (st : Int) (near : List Int) : Prop where
  pw : near.Pairwise (· < ·)
  mem : ∀ x, x ∈ near ↔ Rch (sucs R) st x
  pos : ∀ x ∈ near, 0 ≤ x
/-- the rows of the chart that begins there -/
structure BegR (R : List Row) (st : Int) (near : List Int) (R' : List Row) : Prop where
  pw : R'.Pairwise rowLt
  mem : ∀ x, x ∈ R' ↔ ∃ r ∈ R, r.1 ∈ near ∧ ren (numb (orderOf st near)) r = x
theorem ints_eq : ∀ {l m : List Int}, l.Pairwise (· < ·) → m.Pairwise (· < ·) → (∀ x, x ∈ l ↔ x ∈ m) → l = m
  | [], [], _, _, _ => rfl
  | [], b :: m, _, _, h => absurd ((h b).mpr List.mem_cons_self) (by simp)
  | a :: l, [], _, _, h => absurd ((h a).mp List.mem_cons_self) (by simp)
  | a :: l, b :: m, p, q, h => by
    obtain ⟨p1, p2⟩ := List.pairwise_cons.mp p
    obtain ⟨q1, q2⟩ := List.pairwise_cons.mp q
    have e : a = b := by
      rcases List.mem_cons.mp ((h a).mp List.mem_cons_self) with e | e
      · exact e
      · rcases List.mem_cons.mp ((h b).mpr List.mem_cons_self) with e2 | e2
        · exact e2.symm
        · have := q1 a e
          have := p1 b e2
          omega
    subst e
    refine congrArg _ (ints_eq p2 q2 fun x => ⟨fun hx => ?_, fun hx => ?_⟩)
    · rcases List.mem_cons.mp ((h x).mp (List.mem_cons_of_mem _ hx)) with e | e
      · have := p1 x hx
        omega
      · exact e
    · rcases List.mem_cons.mp ((h x).mpr (List.mem_cons_of_mem _ hx)) with e | e
      · have := q1 x hx
        omega
      · exact e
theorem Near.uniq {R : List Row} {st : Int} {n1 n2 : List Int} (a : Near R st n1) (b : Near R st n2) : n1 = n2 := ints_eq a.pw b.pw fun x => (a.mem x).trans (b.mem x).symm
theorem BegR.uniq {R : List Row} {st : Int} {near : List Int} {A B : List Row} (a : BegR R st near A) (b : BegR R st near B) : A = B := sorted_eq a.pw b.pw fun x => (a.mem x).trans (b.mem x).symm
section
variable {R : List Row} {st : Int} {near : List Int} {R' : List Row}
theorem mem_order {x : Int} (N : Near R st near) : x ∈ orderOf st near ↔ x ∈ near := by
  unfold orderOf
  rw [List.mem_cons, List.mem_filter, decide_eq_true_eq]
  constructor
  · rintro (rfl | h)
    · exact (N.mem _).mpr .refl
    · exact h.1
  · intro h
    by_cases e : x = st
    · exact .inl e
    · exact .inr ⟨h, e⟩
theorem near_nodup (N : Near R st near) : near.Nodup := N.pw.imp fun h e => by omega
theorem order_nodup (N : Near R st near) : (orderOf st near).Nodup := by
  unfold orderOf
  refine List.nodup_cons.mpr ⟨fun h => ?_, (near_nodup N).filter _⟩
  have := (List.mem_filter.mp h).2
  simp at this
theorem order_len (N : Near R st near) : (orderOf st near).length = near.length := by
  have h1 : (orderOf st near).Perm near := (List.perm_ext_iff_of_nodup (order_nodup N) (near_nodup N)).mpr fun x => mem_order N
  exact h1.length_eq
theorem numb_at {order : List Int} {x : Int} (hx : x ∈ order) (hp : x ≠ -1) : ∃ k : Nat, numb order x = k ∧ k < order.length ∧ order[k]? = some x := by
  have h : order.idxOf x < order.length := List.idxOf_lt_length_iff.mpr hx
  refine ⟨order.idxOf x, by unfold numb; rw [if_neg hp], h, ?_⟩
  rw [List.getElem?_eq_getElem h, List.getElem_idxOf h]
theorem numb_inj {order : List Int} {x y : Int} (hx : x = -1 ∨ x ∈ order) (hy : y = -1 ∨ y ∈ order) (e : numb order x = numb order y) : x = y := by
  by_cases h1 : x = -1 <;> by_cases h2 : y = -1
  · rw [h1, h2]
  · obtain ⟨k, e2, _⟩ := numb_at (hy.resolve_left h2) h2
    rw [e2] at e
    unfold numb at e
    rw [if_pos h1] at e
    omega
  · obtain ⟨k, e2, _⟩ := numb_at (hx.resolve_left h1) h1
    rw [e2] at e
    unfold numb at e
    rw [if_pos h2] at e
    omega
  · obtain ⟨k, e1, _, a1⟩ := numb_at (hx.resolve_left h1) h1
    obtain ⟨j, e2, _, a2⟩ := numb_at (hy.resolve_left h2) h2
    rw [e1, e2] at e
    have : k = j := by omega
    subst this
    rw [a1] at a2
    exact Option.some.inj a2
theorem kept_tgt (N : Near R st near) {r : Row} (hr : r ∈ R) (h : r.1 ∈ near) : r.2.2 = -1 ∨ r.2.2 ∈ near := by
  by_cases e : r.2.2 = -1
  · exact .inl e
  · exact .inr ((N.mem _).mpr (.step ((N.mem _).mp h) (mem_sucs.mpr ⟨e, r.2.1, hr⟩)))
theorem ren_inj (N : Near R st near) {r q : Row} (hr : r ∈ R) (h1 : r.1 ∈ near) (hq : q ∈ R) (h2 : q.1 ∈ near) (e : ren (numb (orderOf st near)) r = ren (numb (orderOf st near)) q) : r = q := by
  unfold ren at e
  have e1 : numb (orderOf st near) r.1 = numb (orderOf st near) q.1 := congrArg (·.1) e
  have e2 : r.2.1 = q.2.1 := congrArg (·.2.1) e
  have e3 : numb (orderOf st near) r.2.2 = numb (orderOf st near) q.2.2 := congrArg (·.2.2) e
  refine row_ext.mpr ⟨numb_inj (.inr ((mem_order N).mpr h1)) (.inr ((mem_order N).mpr h2)) e1, e2, numb_inj ((kept_tgt N hr h1).imp id (mem_order N).mpr) ((kept_tgt N hq h2).imp id (mem_order N).mpr) e3⟩
/-- the rows that are kept, in their order -/
def keptR (R : List Row) (near : List Int) : List Row := R.filter fun r => decide (r.1 ∈ near)
theorem kept_nodup (N : Near R st near) (nd : R.Nodup) : ((keptR R near).map (ren (numb (orderOf st near)))).Nodup := by
  unfold List.Nodup
  rw [List.pairwise_map]
  refine ((nd.filter fun r => decide (r.1 ∈ near))).imp_of_mem fun {a b} ha hb hne e => hne ?_
  obtain ⟨a1, a2⟩ := List.mem_filter.mp ha
  obtain ⟨b1, b2⟩ := List.mem_filter.mp hb
  exact ren_inj N a1 (of_decide_eq_true a2) b1 (of_decide_eq_true b2) e
theorem beg_of (N : Near R st near) (nd : R.Nodup) {ms : List Row} (hm : ms.Perm ((keptR R near).map (ren (numb (orderOf st near))))) (hw : ms.Pairwise fun a b => W.dataLt (rowD b) (rowD a) = false) : BegR R st near ms := by
  refine ⟨strict_rows hw (hm.nodup_iff.mpr (kept_nodup N nd)), fun x => ?_⟩
  rw [hm.mem_iff, List.mem_map]
  constructor
  · rintro ⟨r, hr, e⟩
    obtain ⟨h1, h2⟩ := List.mem_filter.mp hr
    exact ⟨r, h1, of_decide_eq_true h2, e⟩
  · rintro ⟨r, h1, h2, e⟩
    exact ⟨r, List.mem_filter.mpr ⟨h1, decide_eq_true h2⟩, e⟩
theorem st_numb (N : Near R st near) : numb (orderOf st near) st = 0 := by
  have hp := N.pos st ((N.mem st).mpr .refl)
  unfold numb orderOf
  rw [if_neg (by omega), List.idxOf_cons_self]
  rfl
theorem beg_len (N : Near R st near) (B : BegR R st near R') : R'.length ≤ R.length := by
  have nd : R'.Nodup := List.Pairwise.imp (R := rowLt) (S := fun a b => a ≠ b) (fun {a b} h e => rowLt_irrefl a (by rw [← e] at h; exact h)) B.pw
  have h := KS.nodup_leK R' (R.map (ren (numb (orderOf st near)))) nd fun x hx => by
    obtain ⟨r, hr, _, e⟩ := (B.mem x).mp hx
    exact List.mem_map.mpr ⟨r, hr, e⟩
  rwa [List.length_map] at h
theorem beg_mem (B : BegR R st near R') {x : Row} (hx : x ∈ R') : ∃ r ∈ R, x.2.1 = r.2.1 := by
  obtain ⟨r, hr, _, rfl⟩ := (B.mem x).mp hx
  exact ⟨r, hr, rfl⟩
theorem beg_chart (N : Near R st near) (B : BegR R st near R') (hlb : ∀ r ∈ R, CH.labelB r.2.1 = true) : ChartOk near.length R' := by
  have hst : st ∈ near := (N.mem st).mpr .refl
  have lo : ∀ x, x ∈ near → 0 ≤ numb (orderOf st near) x ∧ numb (orderOf st near) x < near.length := fun x hx => by
    obtain ⟨k, e, h, _⟩ := numb_at ((mem_order N).mpr hx) (by have := N.pos x hx; omega)
    rw [order_len N] at h
    rw [e]
    omega
  refine ⟨List.length_pos_iff.mpr (fun e => by rw [e] at hst; cases hst), fun x hx => ?_, ord_rows B.pw, fun m hm => ?_⟩
  · obtain ⟨r, hr, h1, rfl⟩ := (B.mem x).mp hx
    have h2 := lo r.1 h1
    have h3 : -1 ≤ numb (orderOf st near) r.2.2 ∧ numb (orderOf st near) r.2.2 < near.length := by
      rcases kept_tgt N hr h1 with h | h
      · rw [h]
        unfold numb
        rw [if_pos rfl]
        omega
      · have := lo _ h
        omega
    unfold arrowB ren
    simp only [Bool.and_eq_true, decide_eq_true_eq]
    exact ⟨⟨hlb r hr, h2⟩, h3⟩
  · have hm2 : m < (orderOf st near).length := by rw [order_len N]; exact hm
    have hmem : (orderOf st near)[m] ∈ near := (mem_order N).mp (List.getElem_mem hm2)
    have key : ∀ x, Rch (sucs R) st x → Rch (sucs R') 0 (numb (orderOf st near) x) := fun x h => by
      induction h with
      | refl =>
        rw [st_numb N]
        exact .refl
      | @step y z hy hz ih =>
        obtain ⟨hne, l, hr⟩ := mem_sucs.mp hz
        refine .step ih (mem_sucs.mpr ⟨fun e => ?_, l, (B.mem _).mpr ⟨_, hr, (N.mem y).mpr hy, rfl⟩⟩)
        have hz2 : z ∈ near := (N.mem z).mpr (.step hy hz)
        have := lo z hz2
        omega
    have h := key _ ((N.mem _).mp hmem)
    obtain ⟨k, e, hk, ek⟩ := numb_at ((mem_order N).mpr hmem) (by have := N.pos _ hmem; omega)
    rw [e] at h
    have : k = m := by
      rw [List.getElem?_eq_getElem hk] at ek
      have e4 := Option.some.inj ek
      rcases Nat.lt_trichotomy k m with h3 | h3 | h3
      · exact absurd e4 (List.pairwise_iff_getElem.mp (order_nodup N) _ _ hk hm2 h3)
      · exact h3
      · exact absurd e4.symm (List.pairwise_iff_getElem.mp (order_nodup N) _ _ hm2 hk h3)
    rwa [this] at h
/-- a chart from its start is itself -/
theorem near_all {n : Nat} (ok : ChartOk n R) : Near R 0 ((List.range n).map fun i : Nat => (i : Int)) := by
  refine ⟨?_, fun x => ?_, fun x hx => ?_⟩
  · rw [List.pairwise_map]
    exact List.pairwise_lt_range.imp fun h => by omega
  · rw [List.mem_map]
    constructor
    · rintro ⟨i, hi, rfl⟩
      exact ok.all i (List.mem_range.mp hi)
    · intro h
      have hb : 0 ≤ x ∧ x < n := by
        rcases Rch.tgt h (T := R.map (·.2.2)) (fun y z hz => by
          obtain ⟨_, l, hr⟩ := mem_sucs.mp hz
          exact List.mem_map.mpr ⟨_, hr, rfl⟩) with e | e
        · rw [e]
          have := ok.pos
          omega
        · obtain ⟨r, hr, e⟩ := List.mem_map.mp e
          have ha := ok.arr r hr
          unfold arrowB at ha
          simp only [Bool.and_eq_true, decide_eq_true_eq] at ha
          cases h with
          | refl =>
            have := ok.pos
            omega
          | step _ hz =>
            have := (mem_sucs.mp hz).1
            omega
      exact ⟨x.toNat, List.mem_range.mpr (by omega), by omega⟩
  · obtain ⟨i, _, rfl⟩ := List.mem_map.mp hx
    omega
theorem order_all {n : Nat} (hn : 0 < n) : orderOf 0 ((List.range n).map fun i : Nat => (i : Int)) = (List.range n).map fun i : Nat => (i : Int) := by
  obtain ⟨m, rfl⟩ : ∃ m, n = m + 1 := ⟨n - 1, by omega⟩
  unfold orderOf
  rw [List.range_succ_eq_map, List.map_cons, List.filter_cons, if_neg (by simp)]
  refine congrArg _ (List.filter_eq_self.mpr fun x hx => ?_)
  obtain ⟨i, hi, rfl⟩ := List.mem_map.mp hx
  obtain ⟨j, _, rfl⟩ := List.mem_map.mp hi
  exact decide_eq_true (by omega)
theorem numb_all {n i : Nat} (hi : i < n) : numb ((List.range n).map fun i : Nat => (i : Int)) i = i := by
  have hmem : (i : Int) ∈ (List.range n).map fun i : Nat => (i : Int) := List.mem_map.mpr ⟨i, List.mem_range.mpr hi, rfl⟩
  obtain ⟨k, e, hk, ek⟩ := numb_at hmem (by omega)
  rw [e]
  rw [List.length_map, List.length_range] at hk
  rw [List.getElem?_map, List.getElem?_range hk] at ek
  have : (k : Int) = i := Option.some.inj ek
  exact this
theorem beg_all {n : Nat} (ok : ChartOk n R) (sR : R.Pairwise rowLt) : BegR R 0 ((List.range n).map fun i : Nat => (i : Int)) R := by
  have har : ∀ r ∈ R, (0 ≤ r.1 ∧ r.1 < n) ∧ -1 ≤ r.2.2 ∧ r.2.2 < n := fun r hr => by
    have ha := ok.arr r hr
    unfold arrowB at ha
    simp only [Bool.and_eq_true, decide_eq_true_eq] at ha
    exact ⟨ha.1.2, ha.2⟩
  have hnum : ∀ x : Int, -1 ≤ x → x < n → numb (orderOf 0 ((List.range n).map fun i : Nat => (i : Int))) x = x := fun x h1 h2 => by
    rw [order_all ok.pos]
    by_cases e : x = -1
    · rw [e]
      rfl
    · obtain ⟨i, rfl⟩ : ∃ i : Nat, x = i := ⟨x.toNat, by omega⟩
      exact numb_all (by omega)
  have hren : ∀ r ∈ R, ren (numb (orderOf 0 ((List.range n).map fun i : Nat => (i : Int)))) r = r := fun r hr => by
    have h := har r hr
    unfold ren
    rw [hnum r.1 (by omega) h.1.2, hnum r.2.2 h.2.1 h.2.2]
  refine ⟨sR, fun x => ⟨fun hx => ⟨x, hx, ?_, hren x hx⟩, fun ⟨r, hr, _, e⟩ => ?_⟩⟩
  · have h := har x hx
    exact List.mem_map.mpr ⟨x.1.toNat, List.mem_range.mpr (by omega), by omega⟩
  · rw [hren r hr] at e
    rw [← e]
    exact hr
end
end K24

/-! Rows as data that are a list or a tuple; in, not in among whole numbers. -/
namespace K24
open PySem L2 KS GL LB K24m ML
open CH (outs sucs)
open PySem.Spec hiding Row
open PyProof.Rows hiding cnt
def seqD (d : PyData) (R : List Row) : Prop := d = .list (R.map rowD) ∨ d = .tuple (R.map rowD)
section
variable {K : PySem.W.Frag}
theorem seq_rows {H : Hp} {v : V} {d : PyData} {R : List Row} (h : Da K H v d) (e : seqD d R) : ∃ a rs, v = .ref a ∧ SqQ K H a (rowRefs rs) ∧ RowsAt K H rs ∧ rs.map (·.2) = R := by
  rcases e with rfl | rfl
  · cases h with
    | lst a1 a2 =>
      obtain ⟨rs, rfl, er, hR⟩ := unrow a2
      exact ⟨_, rs, rfl, .inl (.inl (.inl a1)), hR, er⟩
  · cases h with
    | tup a1 a2 =>
      obtain ⟨rs, rfl, er, hR⟩ := unrow a2
      exact ⟨_, rs, rfl, .inr a1, hR, er⟩
theorem row_one {H : Hp} {v : V} {r : Row} (h : Da K H v (rowD r)) : ∃ p, v = .ref p ∧ SqT K H p (rowV r) := by
  have h' : DaAll K H [v] ([r].map rowD) := .cons h .nil
  obtain ⟨qs, e1, e2, hQ⟩ := unrow h'
  match qs, e1, e2 with
  | [(p, r')], e1, e2 =>
    obtain rfl : r' = r := by simpa using e2
    obtain rfl : v = .ref p := by simpa [rowRefs] using e1
    exact ⟨p, rfl, hQ _ List.mem_cons_self⟩
theorem in_ints (s : Int) : ∀ ns : List Int, (ns.map PyData.int).any (fun y => PyData.eqv y (.int s)) = decide (s ∈ ns)
  | [] => rfl
  | n :: ns => by
    rw [List.map_cons, List.any_cons, in_ints s ns, eqv_int, Bool.eq_iff_iff, Bool.or_eq_true, decide_eq_true_eq, decide_eq_true_eq, decide_eq_true_eq, List.mem_cons]
    exact or_congr ⟨Eq.symm, Eq.symm⟩ Iff.rfl
theorem flat_intsD : ∀ ns : List Int, (ns.map PyData.int).all flatD = true
  | [] => rfl
  | n :: ns => by
    rw [List.map_cons, List.all_cons, flat_intsD ns]
    rfl
theorem op_inI {ρ : MS} {Q : Rt → MS → Prop} {r1 r2 : Rt} {s : Int} {ds : List PyData} (ns : List Int) (e : ds = ns.map PyData.int) (h1 : rd K ρ r1 (.int s)) (h2 : rdS K ρ r2 ds) (q : Q (.val (dat K (.bool (decide (s ∈ ns))))) ρ) : opR (rIn K false) r1 r2 ρ Q := by
  subst e
  refine op_in h1 h2 rfl (flat_intsD ns) ?_
  rw [if_neg Bool.false_ne_true, in_ints]
  exact q
theorem op_ninI {ρ : MS} {Q : Rt → MS → Prop} {r1 r2 : Rt} {s : Int} {ds : List PyData} (ns : List Int) (e : ds = ns.map PyData.int) (h1 : rd K ρ r1 (.int s)) (h2 : rdS K ρ r2 ds) (q : Q (.val (dat K (.bool (!decide (s ∈ ns))))) ρ) : opR (rIn K true) r1 r2 ρ Q := by
  subst e
  refine op_in h1 h2 rfl (flat_intsD ns) ?_
  rw [if_pos rfl, in_ints]
  exact q
theorem ev_dinI {ρ : MS} {Q : Rt → MS → Prop} {ty td : TE} (h : ev ty ρ fun r2 ρ2 => ∃ x, r2 = .val (dat K (.int x)) ∧ ev td ρ2 fun r1 ρ1 => ∃ m, rdD K ρ1 r1 m ∧ Q (.val (dat K (.bool (mget m (Sum.inl x)).isSome))) ρ1) : ev (tDIn ty td) ρ Q :=
  ev_din (ev_mono h fun _ _ ⟨x, e, h1⟩ => ev_mono h1 fun _ _ ⟨m, hm, q⟩ => ⟨m, Sum.inl x, hm, e, q⟩)
theorem ev_dninI {ρ : MS} {Q : Rt → MS → Prop} {ty td : TE} (h : ev ty ρ fun r2 ρ2 => ∃ x, r2 = .val (dat K (.int x)) ∧ ev td ρ2 fun r1 ρ1 => ∃ m, rdD K ρ1 r1 m ∧ Q (.val (dat K (.bool (!(mget m (Sum.inl x)).isSome)))) ρ1) : ev (tDNotIn ty td) ρ Q :=
  ev_dnotin (ev_mono h fun _ _ ⟨x, e, h1⟩ => ev_mono h1 fun _ _ ⟨m, hm, q⟩ => ⟨m, Sum.inl x, hm, e, q⟩)
theorem sat_three {P Q R : Pd} {vs : List V} {H0 H : Hp} {G : FP} (S : Sat [some (pu P), some (pu Q), some (pu R)] (vs.map some) H0 H G) : ∃ v w x, vs = [v, w, x] ∧ P.p H0 v ∧ Q.p H0 w ∧ R.p H0 x := by
  have hl := S.len
  obtain ⟨v, f, e1, r, d⟩ := S.get (i := 0) (R := pu P) rfl
  obtain ⟨w, g, e2, q, _⟩ := S.get (i := 1) (R := pu Q) rfl
  obtain ⟨x, g3, e3, q3, _⟩ := S.get (i := 2) (R := pu R) rfl
  match vs, hl with
  | [v', w', x'], _ =>
    obtain rfl : v' = v := Option.some.inj (Option.some.inj e1)
    obtain rfl : w' = w := Option.some.inj (Option.some.inj e2)
    obtain rfl : x' = x := Option.some.inj (Option.some.inj e3)
    exact ⟨v', w', x', rfl, r.1, q.1, q3.1⟩
end
end K24

/-! Charts: made, asked for their arrows and states. -/
namespace K24
open PySem L2 KS GL LB K24m ML
open CH (outs sucs ChC ChartAt cf cf_arrows cf_states ChartOk spInit)
open PySem.Spec hiding Row
open PyProof.Rows hiding cnt
theorem _root_.ML.Sat.now {ρ : MS} {σ : L2.St} {H0 H H' : Hp} {G : FP} (S : Sat ρ σ H0 H G) (s : Same H H') : Sat ρ σ (nowH H0 H H') H' G := by
  refine S.mv (now_same S.same) (now_sub S.same s) fun a ha => ?_
  have hne : H a ≠ none ∧ H0 a = none := ha.elim (S.fr a) id
  refine ⟨?_, by unfold nowH; rw [if_neg hne.1]; exact hne.2⟩
  cases e : H a with
  | none => exact absurd e hne.1
  | some u => exact s a u e
def chartP (K : PySem.W.Frag) (C : Addr) (n : Nat) (R : List Row) : Pd := ⟨fun H v => ∃ (p dx a o : Addr) (rs : List (Addr × Row)), v = .ref p ∧ H p = some (.ins C dx (cf n a o)) ∧ SqT K H a (rowRefs rs) ∧ RowsAt K H rs ∧ rs.map (·.2) = R ∧ CH.OpenAt H o R,
  fun {H H' v} ⟨p, dx, a, o, rs, e, h1, h2, h3, h4, h5⟩ s => ⟨p, dx, a, o, rs, e, s _ _ h1, sqT_mono s h2, h3.mono s, h4, h5.mono s⟩⟩
section
variable {K : PySem.W.Frag} {mg : Str → Option Value} {C : Addr} {ρ : MS} {Q : Rt → MS → Prop} {n : Nat} {R : List Row}
theorem ev_arrows {i : Nat} (CC : ChC K mg C) (h : ρ[i]? = some (some (pu (chartP K C n R)))) (q : Q (.val (dat K (.tuple (R.map rowD)))) ρ) : ev (tFld K (tVar i) "arrows") ρ Q := by
  intro σ H0 H G k S hk
  obtain ⟨v, f, e, ⟨⟨p, dx, a, o, rs, rfl, h1, h2, h3, rfl, _⟩, _⟩, _⟩ := S.get h
  refine ⟨.ref p, e, p, C, dx, _, .ref a, rfl, S.same _ _ h1, CC.cl, CC.n2, cf_arrows _ _ _, ?_⟩
  exact hk _ _ _ _ _ _ q (post_pure S (.tup h2 (da_rows h3)))
theorem ev_states {i : Nat} (CC : ChC K mg C) (h : ρ[i]? = some (some (pu (chartP K C n R)))) (q : Q (.val (dat K (.int n))) ρ) : ev (tFld K (tVar i) "states") ρ Q := by
  intro σ H0 H G k S hk
  obtain ⟨v, f, e, ⟨⟨p, dx, a, o, rs, rfl, h1, h2, h3, rfl, _⟩, _⟩, _⟩ := S.get h
  refine ⟨.ref p, e, p, C, dx, _, .int n, rfl, S.same _ _ h1, CC.cl, CC.n1, cf_states _ _ _, ?_⟩
  exact hk _ _ _ _ _ _ q (post_pure S (.int _))
theorem ev_make {ta : TA} (h : evD K ta ρ fun ds ρ1 => ∃ (n : Nat) (R : List Row), ds = [.int n, .tuple (R.map rowD)] ∧ R.length ≤ 200 ∧ ChartOk n R ∧ Q (.val (pu (chartP K C n R))) ρ1) : ev (tMake C (spInit K C) [] E0 ta) ρ Q := by
  intro σ H0 H G k S hk
  refine h σ H0 H G _ S fun ds ρ1 vs H1 H1' ⟨n, R, e, hl, ok, q⟩ e1 hds S1 x dx hx hdx hne => ?_
  subst e
  obtain ⟨⟩ | ⟨hn, hr⟩ := hds
  cases hn
  obtain ⟨⟩ | ⟨hr, ⟨⟩⟩ := hr
  cases hr with
  | tup a1 a2 =>
    obtain ⟨rs, rfl, er, hR⟩ := unrow a2
    subst er
    have s2 : Same H1' (upd (upd H1' dx (.own x)) x (.ins C dx [])) := (same_upd hdx).trans (same_upd (by rw [upd_ne fun z => hne z.symm]; exact hx))
    refine ⟨H1', x, dx, n, _, rs, rfl, s2, hx, upd_same, sqT_mono S1.same a1, hR.mono S1.same, by rw [← List.length_map (f := (·.2)) (as := rs)]; exact hl, ok, fun H' dx' o s hc hp hO => ⟨rfl, ?_⟩⟩
    have hN : CH.OpenAt (nowH H1 H1' H') o (rs.map (·.2)) := by
      obtain ⟨h0, kvs, tp, qs, a1, a2, a3, a4, a5, a6⟩ := hO
      exact ⟨kvs, tp, qs, by rw [now_new h0]; exact a1, a2, fun s hs => by rw [now_new (a3 s hs).2]; exact (a3 s hs).1, a4, fun z hz => by rw [now_new (a6 z hz)]; exact a5 z hz⟩
    have s0 := now_same (H' := H') S1.same
    have S2 := S1.now s
    refine hk _ _ _ (fun _ => False) _ _ q ⟨⟨e1.s0.trans s0, fun a ha => ?_⟩, ⟨⟨x, dx', _, o, rs, rfl, by rw [now_new hx]; exact hp, sqT_mono s0 a1, hR.mono s0, rfl, hN⟩, fun _ h => h⟩, fun _ h => h.elim, S2.frame fun a ha => ha.resolve_right id⟩
    rw [← e1.fr a ha]
    cases e : H1' a with
    | none => exact absurd e (S1.fr a ha).1
    | some u => exact s a u e
end
end K24

/-! reached_from by what is known; a dict of places. -/
namespace K24
open PySem L2 KS GL LB K24m ML
open CH (outs sucs spReached)
open PySem.Spec hiding Row
open PyProof.Rows hiding cnt
section
variable {K : PySem.W.Frag}
theorem dm_setN {kvs : List (Key × V)} {F : List Int} (d : DM kvs (setf F)) : ∃ F' : List Int, kvs = F'.map (fun x => ((Sum.inl x : Key), V.bl true)) ∧ F'.Nodup ∧ ∀ x, x ∈ F' ↔ x ∈ F := by
  refine ⟨kvs.map fun p => keyI p.1, ?_, d.keysI.1, fun x => ?_⟩
  · rw [List.map_map]
    refine (List.map_id' kvs).symm.trans (List.map_congr_left fun p hp => ?_)
    obtain ⟨s, hs⟩ := d.isI p hp
    obtain ⟨k, v⟩ := p
    dsimp only at hs
    subst hs
    have hv := d.mem.mp hp
    unfold setf at hv
    split at hv
    · rw [← Option.some.inj hv]
      rfl
    · cases hv
  · rw [d.keysI.2 x]
    unfold setf
    by_cases h : x ∈ F <;> simp [h]
theorem dk_trueR {H : Hp} : ∀ F : List Int, DkAll K H (F.map fun x => ((Sum.inl x : Key), V.bl true)) (F.map fun x => ((Sum.inl x : Key), PyData.bool true))
  | [] => .nil
  | _ :: F => .cons (.bl true) (dk_trueR F)
def reachedM (K : PySem.W.Frag) : MSp := fun Rs q => ∃ (R : List Row) (st : Int) (d : PyData), Rs = [dat K (.int st), dat K d] ∧ seqD d R ∧ R.length ≤ 200 ∧
  ∀ F : List Int, F.Nodup → (∀ x, x ∈ F ↔ Rch (sucs R) st x) → q (ddk K (F.map fun x => ((Sum.inl x : Key), PyData.bool true))) []
abbrev S_reached_from (K : PySem.W.Frag) : Sp := spOf 0 (reachedM K)
theorem sat_two0 {P Q : Pd} {vs : List V} {H0 H : Hp} {G : FP} (S : Sat [some (pu P), some (pu Q)] (vs.map some) H0 H G) : ∃ v w, vs = [v, w] ∧ P.p H0 v ∧ Q.p H0 w := by
  have hl := S.len
  obtain ⟨v, f, e1, r, d⟩ := S.get (i := 0) (R := pu P) rfl
  obtain ⟨w, g, e2, q, _⟩ := S.get (i := 1) (R := pu Q) rfl
  match vs, hl with
  | [v', w'], _ =>
    obtain rfl : v' = v := Option.some.inj (Option.some.inj e1)
    obtain rfl : w' = w := Option.some.inj (Option.some.inj e2)
    exact ⟨v', w', rfl, r.1, q.1⟩
theorem reached_conv (vs : List V) (H : Hp) (Q : VK) (E : XK) (h : S_reached_from K vs H Q E) : spReached K vs H Q E := by
  obtain ⟨Rs, H0, G, q, S, ⟨R, st, d, rfl, hd, hl, hq⟩, fin⟩ := h
  obtain ⟨v, w, rfl, p1, p2⟩ := sat_two0 S
  cases p1
  obtain ⟨a, rs, rfl, hS, hR, er⟩ := seq_rows p2 hd
  refine ⟨st, a, rs, rfl, hS.mono S.same, hR.mono S.same, by rw [← List.length_map (f := (·.2)) (as := rs), er]; exact hl, fun d kv F H' s h0 h1 dm nd hF => ?_⟩
  rw [er] at hF
  obtain ⟨x1, x2⟩ := fin_new S s
  obtain ⟨F', rfl, hn, hF'⟩ := dm_setN dm
  exact fin _ _ (hq F' hn fun x => (hF' x).trans (hF x)) _ (fun _ => False) _ H' x1 ⟨⟨d, _, rfl, by rw [now_new h0]; exact h1, dk_trueR F'⟩, fun _ h => h⟩ (fun _ h => h.elim) x2
end
/-- the dict of places: END and an order -/
structure NumD (order : List Int) (m : List (Key × PyData)) : Prop where
  len : m.length = 1 + order.length
  get : ∀ x : Int, mget m (Sum.inl x) = if x = -1 then some (.int (-1)) else if x ∈ order then some (.int (order.idxOf x : Nat)) else none
theorem idx_new {l : List Int} {x : Int} (h : x ∉ l) : (l ++ [x]).idxOf x = l.length := by
  rw [List.idxOf_append, if_neg h, List.idxOf_cons_self]
  omega
theorem idx_old {l : List Int} {x y : Int} (h : y ∈ l) : (l ++ [x]).idxOf y = l.idxOf y := by rw [List.idxOf_append, if_pos h]
theorem NumD.init {st : Int} (h : st ≠ -1) : NumD [st] (mmerge [((Sum.inl (-1) : Key), PyData.int (-1)), (Sum.inl st, .int 0)]) := by
  have e : mmerge [((Sum.inl (-1) : Key), PyData.int (-1)), (Sum.inl st, .int 0)] = [((Sum.inl (-1) : Key), PyData.int (-1)), (Sum.inl st, .int 0)] := by
    have hne : ¬ ((Sum.inl (-1) : Key) = Sum.inl st) := fun z => h (Sum.inl.inj z).symm
    simp [mmerge, mput, hne]
  rw [e]
  refine ⟨rfl, fun x => ?_⟩
  by_cases h1 : x = -1
  · rw [if_pos h1, h1]
    exact mget_pos rfl
  · rw [if_neg h1, mget_neg (fun z => h1 (Sum.inl.inj z).symm)]
    by_cases h2 : x = st
    · subst h2
      rw [if_pos (List.mem_singleton_self x), mget_pos rfl, List.idxOf_cons_self]
      rfl
    · rw [if_neg fun z => h2 (List.mem_singleton.mp z), mget_neg (fun z => h2 (Sum.inl.inj z).symm)]
      rfl
theorem NumD.add {order : List Int} {m : List (Key × PyData)} (N : NumD order m) {x : Int} (h1 : x ≠ -1) (h2 : x ∉ order) : NumD (order ++ [x]) (mput m (Sum.inl x) (.int (order.length : Nat))) := by
  have hno : mget m (Sum.inl x) = none := by rw [N.get, if_neg h1, if_neg h2]
  refine ⟨?_, fun y => ?_⟩
  · rw [mput_new hno, List.length_append, List.length_append, N.len]
    simp only [List.length_cons, List.length_nil]
    omega
  · rw [mget_put]
    by_cases e : y = x
    · subst e
      rw [if_pos rfl, if_neg h1, if_pos (List.mem_append_right _ (List.mem_singleton_self y)), idx_new h2]
    · rw [if_neg fun z => e (Sum.inl.inj z), N.get]
      by_cases h3 : y = -1
      · rw [if_pos h3, if_pos h3]
      · rw [if_neg h3, if_neg h3]
        by_cases h4 : y ∈ order
        · rw [if_pos h4, if_pos (List.mem_append_left _ h4), idx_old h4]
        · rw [if_neg h4, if_neg fun z => (List.mem_append.mp z).elim h4 fun z => e (List.mem_singleton.mp z)]
theorem NumD.numb {order : List Int} {m : List (Key × PyData)} (N : NumD order m) {x : Int} (h : x = -1 ∨ x ∈ order) : mget m (Sum.inl x) = some (.int (numb order x)) := by
  rw [N.get]
  unfold K24.numb
  by_cases h1 : x = -1
  · rw [if_pos h1, if_pos h1]
  · rw [if_neg h1, if_neg h1, if_pos (h.resolve_left h1)]
theorem NumD.has {order : List Int} {m : List (Key × PyData)} (N : NumD order m) {x : Int} (h : x ≠ -1) : (mget m (Sum.inl x)).isSome = decide (x ∈ order) := by
  rw [N.get, if_neg h]
  by_cases h1 : x ∈ order <;> simp [h1]
end K24

namespace K24
open PySem PySem.Spec L2 KS GL LB
open PyProof.Rows hiding cnt
def topS (i : Nat) : Stmt := PySem.Challenge.pw_loopsaid_k04_texts_of_charts.main.body.getD i (.Pass ⟨0, 0, 0, 0⟩)
abbrev sNumberIn : Stmt := topS 21
abbrev sStatesIn : Stmt := topS 22
abbrev sArrowIn : Stmt := topS 23
abbrev sChartBegunAt : Stmt := topS 24
abbrev sDeck : Stmt := topS 27
abbrev sDraw : Stmt := topS 28
abbrev sPick : Stmt := topS 29
abbrev sWord : Stmt := topS 30
abbrev sPlan : Stmt := topS 31
abbrev sWritten : Stmt := topS 32
abbrev sRight : Stmt := topS 33
abbrev sLongRight : Stmt := topS 34
abbrev sLaw : Stmt := topS 35
end K24

/-! The law's deck, draw, pick (the form that mixes a seed). -/
namespace K24
open PySem PySem.Spec L2 KS GL LB ML
open PyProof.Rows hiding cnt
section
variable {P : Program} {w : World} {K : PySem.W.Frag} {mg : Str → Option Value} {base : Heap}
abbrev rInt1 : List V → Hp → VK → Prop := fun xs H Q => (∃ i, xs = [V.int i] ∧ Q (.int i) H) ∨ ∃ k, xs = [V.bl k] ∧ Q (.int (if k then 1 else 0)) H
theorem scDraw : FnScope ["_law_deck_here", "_law_many", "_law_seed", "_law_cell"] ["_law_deck_here", "_law_many"] (defScope sDraw) := ⟨rfl, rfl, rfl, by decide +kernel, rfl, by decide +kernel, by decide +kernel⟩
theorem ok_draw {f : Addr} {fd : FuncData} (F : Fun K "_law_draw" "_law_draw" sDraw f fd) (T : Blt mg) : FnOk P w K mg base CX0 1 f fd ["_law_deck_here", "_law_many"] spDraw := by
  refine F.ok scDraw (fun vs H Q E h => ?_) (fun cdv A outer s H vs Q E hr h => ?_)
  · obtain ⟨_, _, _, _, _, rfl, _⟩ := h
    rfl
  · obtain ⟨H0, d, c, n, many, rfl, B, hm1, hm2, hn, q⟩ := h
    have hu := hu_of hr
    have hu64 := hr.units
    obtain ⟨⟨ns, m, t, h1, h2, hl, m0, m1, t0, t1⟩⟩ := B.dk
    refine ⟨_, (pss_cons (ps_dput hu (pv 0) pe_str (pe_op op_add (pe_dget hu (pv 0) pe_str (fun _ _ => rfl)) pe_int) rfl)
  (pss_cons (ps_set (i := 2) scDraw.nd rfl (Or.inl rfl) (pe_op op_add (pe_dget hu (pv 0) pe_str (fun _ _ => rfl)) (pe_op op_mul (pe_op op_mul pe_int (pe_dget hu (pv 0) pe_str (fun _ _ => rfl))) (pe_dget hu (pv 0) pe_str (fun _ _ => rfl)))))
  (pss_cons (ps_if (pt_cmpR (op_neD hu64) (pe_dget hu (pv 0) pe_str (fun _ _ => rfl)) (pe_lst pa_nil) (nomark _))
    (pss_cons (ps_set (i := 3) scDraw.nd rfl (Or.inl rfl) (pe_bm0 PySem.F.plainAttrs_list PySem.F.slot_list_pop PySem.F.type_list_pop mt_pop (pe_dget hu (pv 0) pe_str (fun _ _ => rfl))))
  (pss_cons (ps_if (pt_cmpR op_ge (pv 3) (pe_op op_pow pe_int pe_int) (nomark _))
    (pss_cons (ps_expr (pe_bm PySem.F.plainAttrs_list PySem.F.slot_list_append PySem.F.type_list_append mt_append (pe_dget hu (pv 0) pe_str (fun _ _ => rfl)) (pa_cons (pe_op op_fdiv (pv 3) (pv 1)) pa_nil)))
  (pss_one (ps_ret (pe_op op_mod (pe_callTy call_int1 (by rfl) T.b_int (by decide +kernel) (pa_cons (pv 3) pa_nil)) (pv 1)))))
    pss_nil)
  (pss_one (ps_set (i := 2) scDraw.nd rfl (Or.inl rfl) (pe_op op_add (pv 2) (pv 3))))))
    pss_nil)
  (pss_cons (ps_set (i := 2) scDraw.nd rfl (Or.inl rfl) (pe_op op_mod (pe_op op_mul (pe_op op_mod (pe_callTy call_int1 (by rfl) T.b_int (by decide +kernel) (pa_cons (pv 2) pa_nil)) pe_int) pe_int) pe_int))
  (pss_cons (ps_set (i := 2) scDraw.nd rfl (Or.inl rfl) (pe_op op_mod (pe_callTy call_int1 (by rfl) T.b_int (by decide +kernel) (pa_cons (pe_op op_add (pe_op op_add (pe_op op_mul (pv 2) (pv 2)) (pe_op op_mul pe_int (pe_dget hu (pv 0) pe_str (fun _ _ => rfl)))) pe_int) pa_nil)) pe_int))
  (pss_one (ps_ret (pe_op op_mod (pe_op op_fdiv (pe_op op_mod (pe_callTy call_int1 (by rfl) T.b_int (by decide +kernel) (pa_cons (pe_op op_mul (pv 2) pe_int) pa_nil)) pe_int) pe_int) (pv 1))))))))), ?_⟩
    have gT : ∀ {H : Hp} {m t : Int}, H d = some (.dK (deckL c m t)) → DGet H d (.str "turn") (some (.int t)) := fun {H m t} e => by
      have z := DGet.k (k := Sum.inr "turn") e
      rw [deck_turn] at z
      exact z
    have gM : ∀ {H : Hp} {m t : Int}, H d = some (.dK (deckL c m t)) → DGet H d (.str "mixed") (some (.int m)) := fun {H m t} e => by
      have z := DGet.k (k := Sum.inr "mixed") e
      rw [deck_mixed] at z
      exact z
    have gC : ∀ {H : Hp} {m t : Int}, H d = some (.dK (deckL c m t)) → DGet H d (.str "cells") (some (.ref c)) := fun {H m t} e => by
      have z := DGet.k (k := Sum.inr "cells") e
      rw [deck_cells] at z
      exact z
    have hdc : d ≠ c := ne_of h1 h2 (fun z => by cases z)
    refine ⟨.ref d, rfl, d, .int t, rfl, gT h1, t, 1, rfl, rfl, .ref d, rfl, d, _, rfl, DPut.k (k := Sum.inr "turn") h1 (show 3 < sizeLine by decide), ?_⟩
    rw [deck_put]
    have g1 : (upd H d (.dK (deckL c m (t + 1)))) d = some (.dK (deckL c m (t + 1))) := upd_same
    have g2 : (upd H d (.dK (deckL c m (t + 1)))) c = some (.lst (ns.map V.int)) := by rw [upd_ne hdc.symm]; exact h2
    have B1 : Bk H0 (upd H d (.dK (deckL c m (t + 1)))) d c (n + 1) := ⟨fun b u e => by
      rw [upd_ne (ne_of_none e B.hd)]
      exact B.same b u e, B.hd, B.hc, ⟨ns, m, t + 1, g1, g2, hl, m0, m1, by omega, by omega⟩⟩
    refine ⟨.ref d, rfl, d, .int m, rfl, gM g1, .ref d, rfl, d, .int (t + 1), rfl, gT g1, 50051, t + 1, rfl, rfl, .inl ⟨by decide, by decide⟩, .ref d, rfl, d, .int (t + 1), rfl, gT g1, _, t + 1, rfl, rfl, .inr ⟨by omega, by omega⟩, m, _, rfl, rfl, ?_⟩
    refine ⟨.ref d, rfl, d, .ref c, rfl, gC g1, Nat.zero_le _, fun e he => ?_⟩
    obtain ⟨e1, e2, e3⟩ := B1.newL he
    have B2 := B1.junk (o := .lst []) e3 e1 e2
    generalize hH2 : upd (upd H d (.dK (deckL c m (t + 1)))) e (.lst []) = H2 at B2 ⊢
    have k1 : H2 d = some (.dK (deckL c m (t + 1))) := by rw [← hH2, upd_ne e1.symm]; exact g1
    have k2 : H2 c = some (.lst (ns.map V.int)) := by rw [← hH2, upd_ne e2.symm]; exact g2
    have k3 : H2 e = some (.lst []) := by rw [← hH2, upd_same]
    -- the end of both ways
    have fin : ∀ (x : Int) (y : Option V) (ms : List Int) (H3 : Hp), Bk H0 H3 d c (n + 1) → H3 d = some (.dK (deckL c m (t + 1))) → tSeq (tAsg (tOp (rI (fun _ j => 0 < j) fun i j => .int (i % j)) (tOp (rI CMul fun i j => .int (i * j)) (tOp (rI (fun _ j => 0 < j) fun i j => .int (i % j)) (tCB rInt1 (tCons (tVar 2) tNil)) (tC (.int 2147483563))) (tC (.int 69621))) (tC (.int 2147483647))) (gName 2))
        (tSeq (tAsg (tOp (rI (fun _ j => 0 < j) fun i j => .int (i % j)) (tCB rInt1 (tCons (tOp (rI0 fun i j => .int (i + j)) (tOp (rI0 fun i j => .int (i + j)) (tOp (rI CMul fun i j => .int (i * j)) (tVar 2) (tVar 2)) (tOp (rI CMul fun i j => .int (i * j)) (tC (.int 39373)) (tDGet (tVar 0) (tC (.str "turn"))))) (tC (.int 19))) tNil)) (tC (.int 2147483629))) (gName 2))
          (tRet (tOp (rI (fun _ j => 0 < j) fun i j => .int (i % j)) (tOp (rI CDiv fun i j => .int (i / j)) (tOp (rI (fun _ j => 0 < j) fun i j => .int (i % j)) (tCB rInt1 (tCons (tOp (rI CMul fun i j => .int (i * j)) (tVar 2) (tC (.int 40014))) tNil)) (tC (.int 2147483587))) (tC (.int 64))) (tVar 1))))
        { nx := fun _ H' => Q .non H', rt := Q } [some (.ref d), some (.int many), some (.int x), y] H3 := fun x y ms H3 B3 l1 => by
      refine ⟨.int x, rfl, .inl ⟨x, rfl, x, 2147483563, rfl, rfl, (by show (0 : Int) < 2147483563; decide), _, 69621, rfl, rfl, .inr ⟨by decide, by decide⟩, _, 2147483647, rfl, rfl, (by show (0 : Int) < 2147483647; decide), ?_⟩⟩
      dsimp only
      generalize hz : x % 2147483563 * 69621 % 2147483647 = z
      have c1 : 0 ≤ z := by rw [← hz]; exact Int.emod_nonneg _ (by decide)
      have c2 : z < 2147483647 := by rw [← hz]; exact Int.emod_lt_of_pos _ (by decide)
      refine ⟨.int z, rfl, .int z, rfl, z, z, rfl, rfl, .inl ⟨by omega, by omega⟩, .ref d, rfl, d, .int (t + 1), rfl, gT l1, 39373, t + 1, rfl, rfl, .inl ⟨by decide, by decide⟩, _, _, rfl, rfl, _, 19, rfl, rfl, .inl ⟨_, rfl, _, 2147483629, rfl, rfl, (by show (0 : Int) < 2147483629; decide), ?_⟩⟩
      dsimp only
      generalize hy : (z * z + 39373 * (t + 1) + 19) % 2147483629 = v
      refine ⟨.int v, rfl, v, 40014, rfl, rfl, .inr ⟨by decide, by decide⟩, .inl ⟨_, rfl, _, 2147483587, rfl, rfl, (by show (0 : Int) < 2147483587; decide), _, 64, rfl, rfl, ⟨by decide, by decide⟩, .int many, rfl, _, many, rfl, rfl, (by show (0 : Int) < many; omega), ?_⟩⟩
      exact q _ H3 (Int.emod_nonneg _ (by omega)) (Int.emod_lt_of_pos _ (by omega)) B3
    refine ⟨.list (ns.map .int), .list [], .lst (.inl (.inl k2)) (dp_ints ns), .lst (.inl (.inl k3)) .nil, shaped_ints ns, shaped_ints [], _, rfl, ?_⟩
    rw [eqv_nil]
    cases hns : ns with
    | nil => exact iteF (fin _ none [] H2 B2 k1)
    | cons n0 r0 =>
      refine iteT ?_
      have hne : ns ≠ [] := by rw [hns]; exact List.cons_ne_nil _ _
      -- cell = deck["cells"].pop()
      have hlast : (ns.map V.int)[(ns.map V.int).length - 1]? = some (.int (ns.getLast hne)) := by
        rw [← List.getLast?_eq_getElem?, List.getLast?_map, List.getLast?_eq_getLast hne]
        rfl
      refine ⟨.ref d, rfl, d, .ref c, rfl, gC k1, .inl ⟨rfl, _, .inl (.inl k2)⟩, c, _, .int (ns.getLast hne), rfl, rfl, k2, hlast, ?_⟩
      generalize ns.getLast hne = x
      have hdl : (ns.map V.int).dropLast = (ns.dropLast).map V.int := by rw [List.map_dropLast]
      rw [hdl]
      have B3 : Bk H0 (upd H2 c (.lst (ns.dropLast.map V.int))) d c (n + 1) := ⟨fun b u e => by
        rw [upd_ne (ne_of_none e B.hc)]
        exact B2.same b u e, B.hd, B.hc, ⟨ns.dropLast, m, t + 1, by rw [upd_ne hdc]; exact k1, upd_same, by rw [List.length_dropLast]; omega, m0, m1, by omega, by omega⟩⟩
      have l1 : (upd H2 c (.lst (ns.dropLast.map V.int))) d = some (.dK (deckL c m (t + 1))) := by rw [upd_ne hdc]; exact k1
      have l2 : (upd H2 c (.lst (ns.dropLast.map V.int))) c = some (.lst (ns.dropLast.map V.int)) := upd_same
      generalize upd H2 c (.lst (ns.dropLast.map V.int)) = H3 at B3 l1 l2 ⊢
      refine ⟨.int x, rfl, 10, 18, rfl, rfl, ⟨by decide, by decide, by decide⟩, _, _, rfl, rfl, _, rfl, ite2 (fun _ => ?_) (fun _ => ?_)⟩
      · -- a digit of a great number
        refine ⟨.ref d, rfl, d, .ref c, rfl, gC l1, .inl ⟨rfl, _, .inl (.inl l2)⟩, .int x, rfl, .int many, rfl, x, many, rfl, rfl, ⟨by omega, by omega⟩, c, _, _, rfl, rfl, l2, ?_, ?_⟩
        · rw [List.length_map, List.length_dropLast]
          exact small1000 (by omega)
        · have e4 : ns.dropLast.map V.int ++ [.int (x / many)] = (ns.dropLast ++ [x / many]).map V.int := by rw [List.map_append]; rfl
          rw [e4]
          have hpos : 0 < ns.length := List.length_pos_iff.mpr hne
          have B4 : Bk H0 (upd H3 c (.lst ((ns.dropLast ++ [x / many]).map V.int))) d c (n + 1) := ⟨fun b u e => by
            rw [upd_ne (ne_of_none e B.hc)]
            exact B3.same b u e, B.hd, B.hc, ⟨ns.dropLast ++ [x / many], m, t + 1, by rw [upd_ne hdc]; exact l1, upd_same, by rw [List.length_append, List.length_dropLast]; simp; omega, m0, m1, by omega, by omega⟩⟩
          refine ⟨.int x, rfl, .inl ⟨x, rfl, .int many, rfl, x, many, rfl, rfl, (by show (0 : Int) < many; omega), ?_⟩⟩
          exact q _ _ (Int.emod_nonneg _ (by omega)) (Int.emod_lt_of_pos _ (by omega)) B4
      · refine ⟨.int _, rfl, .int x, rfl, _, x, rfl, rfl, ?_⟩
        exact fin _ _ [] H3 B3 l1
theorem scPick : FnScope ["_law_deck_here", "_law_some"] ["_law_deck_here", "_law_some"] (defScope sPick) := ⟨rfl, rfl, rfl, by decide +kernel, rfl, by decide +kernel, by decide +kernel⟩
theorem ok_pick {f : Addr} {fd : FuncData} (F : Fun K "_law_pick" "_law_pick" sPick f fd) (T : Blt mg) (h_law_draw : Has P w K mg base "_law_draw" 1 ["_law_deck_here", "_law_many"] spDraw) : FnOk P w K mg base CX0 2 f fd ["_law_deck_here", "_law_some"] (spPick K) := by
  refine F.ok scPick (fun vs H Q E h => ?_) (fun cdv A outer s H vs Q E hr h => ?_)
  · obtain ⟨_, _, _, _, _, _, rfl, _⟩ := h
    rfl
  · obtain ⟨H0, d, c, a, n, xs, rfl, B, hx, x1, x2, hn, q⟩ := h
    refine ⟨_, (pss_one (ps_ret (pe_ix ix_seq (pv 1) (pe_has h_law_draw (hr.mono (by decide)) rfl (pa_cons (pv 0) (pa_cons (pe_callB call_len (by rfl) T.b_len PySem.boot_len (pa_cons (pv 1) pa_nil)) pa_nil))) (fun _ _ => rfl)))), ?_⟩
    have hx' : ∀ {H' : Hp}, Same H0 H' → SqL K H' a xs ∨ SqT K H' a xs := fun {H'} sm => hx.imp (fun z => sm.seq z) (fun z => by
      rcases z with (z | ⟨o, z⟩) | z
      · exact .inl (.inl (sm _ _ z))
      · exact .inl (.inr ⟨o, sm _ _ z⟩)
      · exact .inr z)
    have hlen : LenV K (.ref a) H xs.length := (hx' B.same).imp (fun z => ⟨xs, z, rfl⟩) (fun z => ⟨xs, z, rfl⟩)
    refine ⟨.ref a, rfl, .ref d, rfl, .ref a, rfl, .ref a, xs.length, rfl, hlen, H0, d, c, n, xs.length, rfl, B, by omega, by omega, hn, fun k H' k0 k1 B' => ?_⟩
    obtain ⟨j, rfl⟩ : ∃ j : Nat, k = (j : Int) := ⟨k.toNat, by omega⟩
    have hj : j < xs.length := by omega
    have ha : atI xs (j : Int) = some xs[j] := atI_nat (List.getElem?_eq_getElem hj)
    rcases hx' B'.same with z | z
    · exact .inl ⟨a, xs, j, xs[j], rfl, rfl, z, ha, q _ H' (List.getElem_mem hj) B'⟩
    · exact .inr (.inl ⟨a, xs, j, xs[j], rfl, rfl, z, ha, q _ H' (List.getElem_mem hj) B'⟩)
theorem cut63 (ns : List Int) : ∃ ms : List Int, cutV (ns.map V.int) none (some 63) = ms.map V.int ∧ ms.length ≤ 63 := by
  refine ⟨(ns.drop (HT.sIx ns.length 0 none)).take (HT.sIx ns.length ns.length (some 63) - HT.sIx ns.length 0 none), ?_, ?_⟩
  · unfold cutV
    rw [List.length_map, List.map_take, List.map_drop]
  · rw [List.length_take, List.length_drop, show HT.sIx ns.length ns.length (some 63) = min 63 ns.length from HT.sIx_nat ns.length ns.length 63]
    omega
theorem deck_made (c : Addr) (m : Int) : mergeK [] [((Sum.inr "cells" : Key), V.ref c), (Sum.inr "mixed", .int m), (Sum.inr "turn", .int 0)] = deckL c m 0 := by
  unfold mergeK deckL
  have h1 := n_cm
  have h2 := n_ct
  have h3 := n_mt
  simp [putK, List.foldl, h1, h2, h3]
theorem scDeck : FnScope ["_law_script", "_law_cells", "_law_mixed", "_law_cell"] ["_law_script"] (defScope sDeck) := ⟨rfl, rfl, rfl, by decide +kernel, rfl, by decide +kernel, by decide +kernel⟩
theorem ok_deck {f : Addr} {fd : FuncData} (F : Fun K "_law_deck" "_law_deck" sDeck f fd) (T : Blt mg) : FnOk P w K mg base CX0 1 f fd ["_law_script"] (spDeck K) := by
  refine F.ok scDeck (fun vs H Q E h => ?_) (fun cdv A outer s H vs Q E hr h => ?_)
  · obtain ⟨_, _, rfl, _⟩ := h
    rfl
  · obtain ⟨a, ns, rfl, hS, q⟩ := h
    refine ⟨_, (pss_cons (ps_par (i := 1) (j := 2) rfl scDeck.nd rfl rfl (by decide) rfl rfl (pa_cons (pe_callTy call_listQ (by rfl) T.b_list (by decide +kernel) (pa_cons (pe_slice sl_list (pv 0) po_none (po_some pe_int)) pa_nil)) (pa_cons pe_int pa_nil)) (by rfl))
  (pss_cons (ps_for PassesOwn.never rfl (pi_list (pv 1)) (pg_name (i := 3) scDeck.nd rfl (Or.inl rfl))
    (pss_one (ps_set (i := 2) scDeck.nd rfl (Or.inl rfl) (pe_op op_mod (pe_callTy call_int1 (by rfl) T.b_int (by decide +kernel) (pa_cons (pe_op op_add (pe_op op_add (pe_op op_mul (pv 2) pe_int) (pe_op op_mod (pe_callTy call_int1 (by rfl) T.b_int (by decide +kernel) (pa_cons (pv 3) pa_nil)) pe_int)) pe_int) pa_nil)) pe_int))))
  (pss_one (ps_ret (pe_disp (pps_cons pe_str (pe_revL (pv 1)) (pps_cons pe_str (pv 2) (pps_cons pe_str pe_int pps_nil))) (by rfl) (by rfl) (fun z => by cases z) (by decide)))))), ?_⟩
    obtain ⟨ms, em, lm⟩ := cut63 ns
    refine ⟨.ref a, rfl, 63, rfl, a, _, rfl, hS, fun p hp => ?_⟩
    rw [em]
    refine ⟨p, _, rfl, .inl (.inl (.inl upd_same)), fun l hl => ?_⟩
    refine ⟨_, _, rfl, ?_⟩
    have SH : Same H (upd (upd H p (.lst (ms.map V.int))) l (.lst (ms.map V.int))) := (same_upd hp).trans (same_upd hl)
    have lH : (upd (upd H p (.lst (ms.map V.int))) l (.lst (ms.map V.int))) l = some (.lst (ms.map V.int)) := upd_same
    generalize upd (upd H p (.lst (ms.map V.int))) l (.lst (ms.map V.int)) = HH at SH lH
    refine ⟨.ref l, rfl, l, rfl, ⟨_, .inl (.inl lH)⟩, ?_⟩
    refine for_list (K := K) (a := l) (xs := ms.map V.int) (fun i σ H1 => ∃ (m : Int) (y : Option V), σ = [some (.ref a), some (.ref l), some (.int m), y] ∧ 0 ≤ m ∧ m < 2 ^ 40 ∧ H1 = HH) ⟨97041607, none, rfl, by decide, by decide, rfl⟩ (fun i σ H1 _ ⟨_, _, _, _, _, e⟩ => by rw [e]; exact .inl (.inl lH)) ?_ ?_
    · rintro i x σ H1 hi ⟨m, y, rfl, m0, m1, rfl⟩
      obtain ⟨z, rfl⟩ : ∃ z, x = V.int z := by
        rw [List.getElem?_map] at hi
        cases e : ms[i]? with
        | none => rw [e] at hi; cases hi
        | some z => rw [e] at hi; exact ⟨z, (Option.some.inj hi).symm⟩
      refine ⟨.int m, rfl, m, 16807, rfl, rfl, .inr ⟨by decide, by decide⟩, .int z, rfl, .inl ⟨z, rfl, z, 2147483629, rfl, rfl, (by show (0 : Int) < 2147483629; decide), _, _, rfl, rfl, _, 31, rfl, rfl, .inl ⟨_, rfl, _, 2147483587, rfl, rfl, (by show (0 : Int) < 2147483587; decide), ?_⟩⟩⟩
      exact ⟨_, _, rfl, Int.emod_nonneg _ (by decide), Int.lt_trans (Int.emod_lt_of_pos _ (by decide)) (by decide), rfl⟩
    · rintro σ H1 ⟨m, y, rfl, m0, m1, rfl⟩
      intro d hd
      have hd0 : H d = none := SH.free hd
      have dl : d ≠ l := fun e => by rw [e, lH] at hd; cases hd
      have S2 := SH.trans (same_upd (o := .dK []) hd)
      refine ⟨.ref l, rfl, l, _, rfl, .inl (.inl (by rw [upd_ne dl.symm]; exact lH)), fun c hc => ?_⟩
      have dc : d ≠ c := fun e => by rw [← e, upd_same] at hc; cases hc
      have hcf : H c = none := S2.free hc
      refine ⟨.int m, rfl, ?_, [(Sum.inr "cells", .ref c), (Sum.inr "mixed", .int m), (Sum.inr "turn", .int 0)], rfl, (show 3 ≤ 15 by decide), ?_⟩
      · rw [upd_ne dc, upd_same]
      · rw [deck_made]
        have S3 := S2.trans (same_upd (o := .lst (ms.map V.int).reverse) hc)
        refine q d c _ ⟨fun b u e => ?_, hd0, hcf, ⟨ms.reverse, m, 0, upd_same, ?_, by rw [List.length_reverse]; exact lm, m0, m1, Int.le_refl _, Int.le_refl _⟩⟩
        · rw [upd_ne (ne_of_none e hd0)]
          exact S3 b u e
        · rw [upd_ne dc.symm, upd_same, List.map_reverse]
end
end K24

/-! The law's word, plan. -/
namespace K24
open PySem L2 KS GL LB K24m ML
open CH (outs sucs labelB arrowB ChartOk)
open PySem.Spec hiding Row
open PyProof.Rows hiding cnt
def words : List Str := ["a", "a", "b", "b", "c", "go", "zz", "abcdefgh", "ends", "o"]
theorem word_ok : ∀ l ∈ words, l.length ≤ 8 ∧ PyData.strOk l = true ∧ labelB l = true := by decide +kernel
section
variable {P : Program} {w : World} {K : PySem.W.Frag} {mg : Str → Option Value} {base : Heap}
set_option hygiene false
local macro_rules | `(tactic| k_dat 0 "rd") => `(tactic| first | with_reducible apply rd.val | with_reducible apply rd.own | (apply rd.slot; apply Eq.refl) | (apply rd.slotL; apply Eq.refl))
local macro_rules | `(tactic| k_dat 0 "rdS") => `(tactic| first | with_reducible (apply rdS.l; apply rd.val) | with_reducible (apply rdS.t; apply rd.val) | with_reducible (apply rdS.l; apply rd.own) | (apply rdS.l; apply rd.slotL; apply Eq.refl) | (apply rdS.l; apply rd.slot; apply Eq.refl) | (apply rdS.t; apply rd.slot; apply Eq.refl))
local macro_rules | `(tactic| k_dat 0 "rdD") => `(tactic| first | with_reducible apply rdD.val | with_reducible apply rdD.own | (apply rdD.slot; apply Eq.refl) | (apply rdD.slotP; apply Eq.refl))
local macro_rules | `(tactic| k_dat 0 "sc") => `(tactic| first | apply Sc.int | apply Sc.bl | apply Sc.str | apply Sc.non)
local macro_rules | `(tactic| k_dat 0 "asD") => `(tactic| first | with_reducible apply asD.val | with_reducible apply asD.own | (apply asD.slot; apply Eq.refl))
local macro_rules | `(tactic| k_dat 0 "asX") => `(tactic| first | with_reducible apply asX.pure | with_reducible apply asX.own | (apply asX.slot; apply Eq.refl) | with_reducible apply asX.keep)
local macro_rules | `(tactic| k_dat 0 "nf") => `(tactic| first | (conv => arg 3; dsimp only [wipeM, List.set, List.map]) | skip)
local macro_rules | `(tactic| k_dat 0 "eq") => `(tactic| first | (dsimp only [wipeM, List.set, List.map]; done) | (dsimp only [wipeM, List.set, List.map]; apply Eq.refl) | apply Eq.refl)
local macro_rules | `(tactic| k_dat 0 "st") => `(tactic| first
  | ((with_reducible apply x_seq); k_dat 0 "nf") | ((with_reducible apply x_parT2); (case hi => omega); (case hj => omega)) | ((with_reducible apply x_asg2); (case hi => omega); (case hj => omega)) | ((with_reducible apply x_asg3); (case hi => omega); (case hj => omega); (case hl => omega)) | ((with_reducible apply x_par4); (case hi => omega); (case hj => omega); (case hk => omega); (case hl => omega)) | ((with_reducible apply x_par2); (case hij => omega); (case hi => omega); (case hj => omega)) | with_reducible first | (apply x_asg; case hl => decide) | apply x_drop | apply x_ret | apply x_next | apply x_break | apply x_cont
  | apply x_dput (K := K) | apply x_putN (K := K) | apply x_retN)
local macro_rules | `(tactic| k_dat 0 "ex") => `(tactic| with_reducible first
  | apply ev_int (K := K) | apply ev_str (K := K) | apply ev_bl (K := K) | apply ev_non (K := K)
  | apply ev_tup (K := K) | apply ev_lst (K := K) | apply ev_op | apply ev_un | apply ev_sset_rows (K := K) | apply ev_sset_ints (K := K) | apply ev_cb1 | apply ev_cb2 | apply ev_andV (K := K) | apply ev_orV (K := K) | apply ev_notV (K := K) | apply ev_if
  | apply ev_sl | apply evO_none | apply evO_some (K := K) | apply ev_rev | apply ev_bm1 | apply ev_bm0 | apply ev_dnew (K := K) | apply ev_disp (K := K) | apply ev_dget1 (K := K) | apply ev_dget2 (K := K) | apply ev_dinI (K := K) | apply ev_dninI (K := K) | apply ev_chainI (K := K)
  | apply ev_call | apply ev_call1
  | apply evD_nil | apply evD_cons | apply evA_nil | apply evA_x (K := K) | apply evPs_nil | apply evPs_cons
  | apply ev_dispN (K := K) | apply evPsN_nil | apply evPsN_cons | apply ev_ninN (K := K) | apply ev_ninR (K := K) | apply ev_dcR (K := K)
  | apply evT_val (K := K) | apply evT_B (K := K) | apply evT_and | apply evT_or | apply evT_not | apply evT_yes)
local macro_rules | `(tactic| k_dat 0 "vr") => `(tactic| first
  | ((with_reducible apply ev_var); (case h => apply Eq.refl)) | ((with_reducible apply ev_at); (case h => apply Eq.refl))
  | ((with_reducible apply x_augI); (case hi => decide); (case h0 => apply Eq.refl)))
local macro_rules | `(tactic| k_dat 0 "tg") => `(tactic| first
  | (with_reducible apply tg_name) | ((with_reducible apply tg_move); (case h => apply Eq.refl)) | ((with_reducible apply tg_tup); (case hn => rfl)) | (with_reducible apply tg_row) | (with_reducible apply tgs_nil) | (with_reducible apply tgs_consN))
local macro_rules | `(tactic| k_dat 0 "len") => `(tactic| ((first | apply lt_line | apply le_line); (try simp only [List.length_map, List.length_append, List.length_cons, List.length_nil, List.length_range]); omega))
local macro_rules | `(tactic| k_dat 0 "op") => `(tactic| first
  | ((with_reducible apply op_i0 (K := K)); (case h1 => k_dat 0 "rd"); (case h2 => k_dat 0 "rd"); (case hd => k_dat 0 "sc"))
  | ((with_reducible apply op_eqI (K := K)); (case h1 => k_dat 0 "rd"); (case h2 => k_dat 0 "rd")) | ((with_reducible apply op_neI (K := K)); (case h1 => k_dat 0 "rd"); (case h2 => k_dat 0 "rd"))
  | ((with_reducible apply op_eqS (K := K)); (case h1 => k_dat 0 "rd"); (case h2 => k_dat 0 "rd")) | ((with_reducible apply op_neS (K := K)); (case h1 => k_dat 0 "rd"); (case h2 => k_dat 0 "rd"))
  | ((with_reducible apply op_ixR0 (K := K)); (case h1 => k_dat 0 "rd"); (case h2 => k_dat 0 "rd")) | ((with_reducible apply op_ixR1 (K := K)); (case h1 => k_dat 0 "rd"); (case h2 => k_dat 0 "rd")) | ((with_reducible apply op_ixR2 (K := K)); (case h1 => k_dat 0 "rd"); (case h2 => k_dat 0 "rd"))
  | ((with_reducible apply un_i (K := K)); (case h1 => k_dat 0 "rd"); (case hd => k_dat 0 "sc"))
  | ((with_reducible apply un_len (K := K)); (case h => k_dat 0 "rdS")) | ((with_reducible apply un_list (K := K)); (case h => k_dat 0 "rdS")) | ((with_reducible apply un_tuple (K := K)); (case h => first | (apply rdS.l; k_dat 0 "rd") | (apply rdS.t; k_dat 0 "rd")))
  | ((with_reducible apply un_int (K := K)); (case h => k_dat 0 "rd")) | ((with_reducible apply un_lenD (K := K)); (case h => k_dat 0 "rdD")) | ((with_reducible apply un_listK (K := K)); (case h => k_dat 0 "rdD"))
  | ((with_reducible apply op_append (K := K)); (case hd => k_dat 0 "asD"); (case e => apply Eq.refl); (case hl => k_dat 0 "len"))
  | ((with_reducible apply op_cat_ (K := K)); (case h1 => k_dat 0 "rd"); (case h2 => k_dat 0 "rd"); (case hl => k_dat 0 "len"))
  | ((with_reducible apply op_max2 (K := K)); (case h1 => k_dat 0 "rd"); (case h2 => k_dat 0 "rd")) | ((with_reducible apply op_min2 (K := K)); (case h1 => k_dat 0 "rd"); (case h2 => k_dat 0 "rd"))
  | ((with_reducible apply sl_list_ (K := K)); (case h1 => k_dat 0 "rd")) | ((with_reducible apply sl_tup_ (K := K)); (case h1 => k_dat 0 "rd")))
local macro_rules | `(tactic| k_dat 0 "sp") => `(tactic| first
  | ((with_reducible (apply Exists.intro; apply And.intro)); (case left => with_reducible apply Eq.refl))
  | ((with_reducible (apply Exists.intro; apply And.intro)); (case left => first | k_dat 0 "rd" | k_dat 0 "rdD"))
  | ((with_reducible apply And.intro); (case left => (with_reducible apply Exists.intro); k_dat 0 "rdD"))
  | ((with_reducible (apply Exists.intro; apply Exists.intro; apply And.intro)); (case left => first | k_dat 0 "asD" | k_dat 0 "asX"))
  | ((with_reducible apply And.intro); (case left => apply len_le; apply Eq.refl))
  | ((with_reducible (apply Exists.intro (Sum.inl _); apply And.intro)); (case left => apply Eq.refl)) | ((with_reducible (apply Exists.intro (Sum.inr _); apply And.intro)); (case left => apply Eq.refl)))
local macro_rules | `(tactic| k_dat 0 "wk") => `(tactic| with_reducible first | apply x_forD (K := K) | apply x_lc (K := K) | apply wkD_list | apply wkD_tup | apply wkD_seq | apply wkD_rng1 | apply wkD_rng2 | apply wkD_str)
local macro_rules | `(tactic| k_dat 0 "ml1") => `(tactic| first | k_dat 0 "st" | k_dat 0 "ex" | k_dat 0 "wk" | k_dat 0 "vr" | k_dat 0 "tg" | k_dat 0 "op" | k_dat 0 "sp")
local macro_rules | `(tactic| k_dat 0 "ml") => `(tactic| repeat k_dat 0 "ml1")
abbrev S_law_draw (K : PySem.W.Frag) : Sp := spOf 1 (drawM K)
abbrev S_law_pick (K : PySem.W.Frag) : Sp := spOf 1 (pickM K)
def wordM (K : PySem.W.Frag) : MSp := fun Rs q => ∃ n, Rs = [deck n] ∧ n < 2 ^ 39 ∧ ∀ l ∈ words, q (dat K (.str l)) [deck (n + 1)]
abbrev S_law_word (K : PySem.W.Frag) : Sp := spOf 1 (wordM K)
theorem c_word {ρ : MS} {Q : Rt → MS → Prop} {i m : Nat} (e : ρ[i]? = some (some (deck m))) (h3 : m < 2 ^ 39) (q : ∀ l ∈ words, Q (.val (dat K (.str l))) (ρ.set i (some (deck (m + 1))))) : call1 (wordM K) [Rt.at i] ρ Q := c_one [] e ⟨m, rfl, h3, fun l hl => ⟨_, rfl, q l hl⟩⟩
theorem scWord : FnScope ["_law_deck_here"] ["_law_deck_here"] (defScope sWord) := ⟨rfl, rfl, rfl, by decide +kernel, rfl, by decide +kernel, by decide +kernel⟩
theorem ok_word {f : Addr} {fd : FuncData} (G : Fun K "_law_word" "_law_word" sWord f fd) (h_law_pick : HasM P w K mg base "_law_pick" 2 ["_law_deck_here", "_law_some"] (S_law_pick K)) : FnG P w K mg base CX0 3 f fd ["_law_deck_here"] (S_law_word K) := by
  refine fn_ml G scWord (fun Rs q ⟨_, h, _⟩ => by rw [h]; rfl) (by decide) fun cdv A outer s H E hrG => ?_
  refine ⟨_, (pss_one (ps_ret (pe_hg h_law_pick (hrG.mono (by decide)) rfl (pa_cons (pv 0) (pa_cons (pe_lst (pa_cons pe_str (pa_cons pe_str (pa_cons pe_str (pa_cons pe_str (pa_cons pe_str (pa_cons pe_str (pa_cons pe_str (pa_cons pe_str (pa_cons pe_str (pa_cons pe_str pa_nil))))))))))) pa_nil))))), ?_⟩
  rintro Rs q ⟨n, rfl, hn, hq⟩
  rw [outF_eq]
  try dsimp only [cxOf, Cx.nox, Cx.wish]
  show ML.ex 1 _ [some (deck n)] _
  k_dat 0 "ml"
  refine c_pickL rfl (by decide) (by decide) (by omega) fun d hd => ?_
  obtain ⟨l, hl, rfl⟩ : ∃ l ∈ words, d = .str l := by
    have e : ([PyData.str "a", PyData.str "a", PyData.str "b", PyData.str "b", PyData.str "c", PyData.str "go", PyData.str "zz", PyData.str "abcdefgh", PyData.str "ends", PyData.str "o"] : List PyData) = words.map PyData.str := rfl
    rw [e] at hd
    obtain ⟨l, hl, e⟩ := List.mem_map.mp hd
    exact ⟨l, hl, e.symm⟩
  exact ⟨_, _, ret_val rfl, hq l hl⟩
def planM (K : PySem.W.Frag) : MSp := fun Rs q => ∃ (n top : Nat), Rs = [deck n, dat K (.int top)] ∧ n < 2 ^ 29 ∧ 1 ≤ top ∧ top ≤ 12 ∧ ∀ (m size : Nat) (R : List Row), m ≤ n + 100 → size ≤ top → R.length ≤ 30 → (∀ r ∈ R, r.2.1 ∈ words) → GrOk R size → R.Pairwise rowLt → q (dat K (.tuple [.int size, .tuple (R.map rowD)])) [deck m]
abbrev S_law_plan (K : PySem.W.Frag) : Sp := spOf 1 (planM K)
theorem scPlan : FnScope ["_law_deck_here", "_law_top", "_law_count", "_law_found", "_law_spot", "_law_k"] ["_law_deck_here", "_law_top"] (defScope sPlan) := ⟨rfl, rfl, rfl, by decide +kernel, rfl, by decide +kernel, by decide +kernel⟩
theorem ok_plan {f : Addr} {fd : FuncData} (G : Fun K "_law_plan" "_law_plan" sPlan f fd) (T : Blt mg) (h_law_draw : HasM P w K mg base "_law_draw" 1 ["_law_deck_here", "_law_many"] (S_law_draw K)) (h_law_word : HasM P w K mg base "_law_word" 3 ["_law_deck_here"] (S_law_word K)) :
    FnG P w K mg base CX0 4 f fd ["_law_deck_here", "_law_top"] (S_law_plan K) := by
  refine fn_ml G scPlan (fun Rs q ⟨_, _, h, _⟩ => by rw [h]; rfl) (by decide) fun cdv A outer s H E hrG => ?_
  have hr := hrG.room
  have hu64 := hr.units
  refine ⟨_, (pss_cons (ps_par (i := 2) (j := 3) rfl scPlan.nd rfl rfl (by decide) rfl rfl (pa_cons (pe_op op_add pe_int (pe_hg h_law_draw (hrG.mono (by decide)) rfl (pa_cons (pv 0) (pa_cons (pv 1) pa_nil)))) (pa_cons (pe_lst pa_nil) pa_nil)) (by rfl))
  (pss_cons (ps_for PassesOwn.never rfl (pi_range2 (by rfl) T.b_range (pa_cons pe_int (pa_cons (pv 2) pa_nil))) (pg_name (i := 4) scPlan.nd rfl (Or.inl rfl))
    (pss_one (ps_expr (pe_bm PySem.F.plainAttrs_list PySem.F.slot_list_append PySem.F.type_list_append mt_append (pv 3) (pa_cons (pe_tup (pa_cons (pe_hg h_law_draw (hrG.mono (by decide)) rfl (pa_cons (pv 0) (pa_cons (pv 4) pa_nil))) (pa_cons (pe_hg h_law_word (hrG.mono (by decide)) rfl (pa_cons (pv 0) pa_nil)) (pa_cons (pv 4) pa_nil)))) pa_nil)))))
  (pss_cons (ps_for PassesOwn.never rfl (pi_range1 (by rfl) T.b_range (pa_cons (pe_hg h_law_draw (hrG.mono (by decide)) rfl (pa_cons (pv 0) (pa_cons (pe_callB (call_min2 rfl) (by rfl) T.b_min (by decide +kernel) (pa_cons (pe_op op_mul pe_int (pv 1)) (pa_cons pe_int pa_nil))) pa_nil))) pa_nil)) (pg_name (i := 5) scPlan.nd rfl (Or.inl rfl))
    (pss_one (ps_expr (pe_bm PySem.F.plainAttrs_list PySem.F.slot_list_append PySem.F.type_list_append mt_append (pv 3) (pa_cons (pe_tup (pa_cons (pe_hg h_law_draw (hrG.mono (by decide)) rfl (pa_cons (pv 0) (pa_cons (pv 2) pa_nil))) (pa_cons (pe_hg h_law_word (hrG.mono (by decide)) rfl (pa_cons (pv 0) pa_nil)) (pa_cons (pe_callB (call_max2 rfl) (by rfl) T.b_max (by decide +kernel) (pa_cons (pe_op op_sub (pe_hg h_law_draw (hrG.mono (by decide)) rfl (pa_cons (pv 0) (pa_cons (pe_op op_add (pv 2) pe_int) pa_nil))) pe_int) (pa_cons (pe_op op_sub pe_int pe_int) pa_nil))) pa_nil)))) pa_nil)))))
  (pss_one (ps_ret (pe_tup (pa_cons (pv 2) (pa_cons (pe_callTy call_tupQ (by rfl) T.b_tuple (by decide +kernel) (pa_cons (pe_callB (cr_sortedK rfl hu64) (by rfl) T.b_sorted (by decide +kernel) (pa_cons (pe_callTy (cr_setK rfl hu64) (by rfl) T.b_set (by decide +kernel) (pa_cons (pv 3) pa_nil)) pa_nil)) pa_nil)) pa_nil)))))))), ?_⟩
  rintro Rs q ⟨n, top, rfl, hn, ht1, ht2, hq⟩
  rw [outF_eq]
  try dsimp only [cxOf, Cx.nox, Cx.wish]
  show ML.ex 1 _ [some (deck n), some (dat K (.int top)), none, none, none, none] _
  k_dat 0 "ml"
  refine c_draw rfl (by omega) (by omega) (by omega) fun t0 t00 t01 => ?_
  obtain ⟨size, rfl⟩ : ∃ size : Nat, t0 = (size : Int) := ⟨t0.toNat, by omega⟩
  k_dat 0 "ml"
  refine ⟨1, 1 + (size : Int), rfl, ⟨by omega, by omega, by omega, by omega⟩, ?_⟩
  refine for_pre (List.range ((1 + (size : Int)) - 1).toNat) _ rfl (fun pre ρ' => ∃ (m : Nat) (R : List Row) (x4 : Option Res), ρ' = [some (deck m), some (dat K (.int top)), some (dat K (.int (1 + size))), some (lo K (R.map rowD)), x4, none] ∧ m = n + 1 + 2 * pre.length ∧ R.length = pre.length ∧ (∀ r ∈ R, r.2.1 ∈ words) ∧ GrOk R (1 + pre.length)) ⟨n + 1, [], none, rfl, rfl, rfl, (fun _ h => nomatch h), GrOk.init⟩ ?_ ?_
  · rintro pre x post ρ' epre ⟨m, R, x4, rfl, rfl, hl, hR, gr⟩
    have hpl : pre.length < size ∧ x = pre.length := by
      have h1 := congrArg List.length epre
      have h2 : (List.range ((1 + (size : Int)) - 1).toNat)[pre.length]? = some x := by rw [epre]; simp
      simp at h1
      have h3 : pre.length < ((1 + (size : Int)) - 1).toNat := by omega
      rw [List.getElem?_range h3] at h2
      exact ⟨by omega, (Option.some.inj h2).symm⟩
    obtain ⟨hp1, rfl⟩ := hpl
    refine ⟨[4], by decide, ?_⟩
    k_dat 0 "ml"
    refine c_draw rfl (by omega) (by omega) (by omega) fun here h0 h1 => ?_
    k_dat 0 "ml"
    refine c_word rfl (by omega) fun l hsl => ?_
    k_dat 0 "ml"
    refine ⟨n + 1 + 2 * pre.length + 2, R ++ [(here, l, ((1 : Int) + (pre.length : Nat)))], some (dat K (.int (1 + (pre.length : Int)))), ?_, ?_, ?_, ?_, ?_⟩
    rotate_left 2
    · simp [hl]
    · intro r hr
      rcases List.mem_append.mp hr with hr | hr
      · exact hR r hr
      · rw [List.mem_singleton.mp hr]
        exact hsl
    · have g1 := gr.grow (x := here) (l := l) h0 (by omega) (word_ok l hsl).2.2
      have e1 : ((1 + pre.length : Nat) : Int) = 1 + (pre.length : Int) := by omega
      rw [e1] at g1
      rw [List.length_append]
      exact g1
    · rw [List.map_append]
      rfl
    · rw [List.length_append]
      simp only [List.length_cons, List.length_nil]
      omega
  · rintro ρ' ⟨m, R, x4, rfl, rfl, hl, hR, gr⟩
    rw [List.length_range] at hl gr
    have es : ((1 + (size : Int)) - 1).toNat = size := by omega
    rw [es] at hl gr
    rw [List.length_range, es]
    k_dat 0 "ml"
    refine op_iC rd.val rd.val (.inl ⟨by decide, by decide⟩) (.int _) ?_
    k_dat 0 "ml"
    have hmm : 1 ≤ (if (19 : Int) < 2 * (top : Int) then (19 : Int) else 2 * (top : Int)) ∧ (if (19 : Int) < 2 * (top : Int) then (19 : Int) else 2 * (top : Int)) ≤ 19 := by
      split <;> omega
    generalize (if (19 : Int) < 2 * (top : Int) then (19 : Int) else 2 * (top : Int)) = mm at hmm
    refine c_draw rfl hmm.1 (by omega) (by omega) fun k0 k00 k01 => ?_
    k_dat 0 "ml"
    refine ⟨by omega, by omega, ?_⟩
    refine for_pre (List.range k0.toNat) _ rfl (fun pre ρ' => ∃ (m : Nat) (R : List Row) (x4 x5 : Option Res), ρ' = [some (deck m), some (dat K (.int top)), some (dat K (.int (1 + size))), some (lo K (R.map rowD)), x4, x5] ∧ m = n + 2 + 2 * size + 3 * pre.length ∧ R.length = size + pre.length ∧ (∀ r ∈ R, r.2.1 ∈ words) ∧ GrOk R (1 + size)) ⟨n + 1 + 2 * size + 1, R, _, _, rfl, by simp; omega, by simp [hl], hR, gr⟩ ?_ ?_
    · rintro pre x post ρ' epre ⟨m, R, x4, x5, rfl, rfl, hl, hR, gr⟩
      have hpl : pre.length < 18 := by
        have h1 := congrArg List.length epre
        simp at h1
        omega
      refine ⟨[5], by decide, ?_⟩
      k_dat 0 "ml"
      refine c_draw rfl (by omega) (by omega) (by omega) fun here h0 h1 => ?_
      k_dat 0 "ml"
      refine c_word rfl (by omega) fun l hsl => ?_
      k_dat 0 "ml"
      refine c_draw rfl (by omega) (by omega) (by omega) fun tt t0 t1 => ?_
      k_dat 0 "ml"
      have htt : ∃ z : Int, (if (0 - 1 : Int) > tt - 2 then (0 - 1 : Int) else tt - 2) = z ∧ -1 ≤ z ∧ z < 1 + size := by
        refine ⟨_, rfl, ?_⟩
        split <;> omega
      obtain ⟨z, ez, z0, z1⟩ := htt
      refine ⟨n + 2 + 2 * size + 3 * pre.length + 3, R ++ [(here, l, z)], x4, some (dat K (.int x)), ?_, ?_, ?_, ?_, ?_⟩
      rotate_left 2
      · simp [hl]
        omega
      · intro r hr
        rcases List.mem_append.mp hr with hr | hr
        · exact hR r hr
        · rw [List.mem_singleton.mp hr]
          exact hsl
      · exact gr.add ⟨⟨h0, by show here < _; omega⟩, ⟨z0, by show z < _; omega⟩, (word_ok l hsl).2.2⟩
      · rw [List.map_append, ← ez]
        rfl
      · rw [List.length_append]
        simp only [List.length_cons, List.length_nil]
        omega
    · rintro ρ' ⟨m, R, x4, x5, rfl, rfl, hl, hR, gr⟩
      rw [List.length_range] at hl
      rw [List.length_range]
      k_dat 0 "ml"
      refine ⟨by omega, fun R' pw nd hm' => ?_⟩
      k_dat 0 "ml"
      have sR := strict_rows pw nd
      have hlen : R'.length ≤ R.length := KS.nodup_leK _ _ nd fun x hx => (hm' x).mp hx
      have e1 : (1 + (size : Int)) = ((1 + size : Nat) : Int) := by omega
      rw [e1]
      exact ⟨_, _, ret_val rfl, hq _ (1 + size) R' (by omega) (by omega) (by omega) (fun r hr => hR r ((hm' r).mp hr)) (gr.same hm') sR⟩
end
end K24

/-! loopsaid.charts: chart_begun_at. -/
namespace K24
open PySem L2 KS GL LB K24m ML
open CH (outs sucs ChC ChartAt cf cf_arrows cf_states ChartOk spInit arrowB)
open PySem.Spec hiding Row
open PyProof.Rows hiding cnt
theorem kept_alike (L : List Row) (f : Row → Row) : L.map (fun r => rowD (f r)) = (L.map f).map rowD := by
  rw [List.map_map]
  rfl
theorem order_snoc {st x : Int} {pre : List Int} (h : x ≠ st) : orderOf st (pre ++ [x]) = orderOf st pre ++ [x] := by
  unfold orderOf
  rw [List.filter_append, List.filter_cons, if_pos (by simpa using h)]
  rfl
theorem order_same {st : Int} {pre : List Int} : orderOf st (pre ++ [st]) = orderOf st pre := by
  unfold orderOf
  rw [List.filter_append, List.filter_cons, if_neg (by simp), List.filter_nil, List.append_nil]
section
variable {P : Program} {w : World} {K : PySem.W.Frag} {mg : Str → Option Value} {base : Heap}
set_option hygiene false
local macro_rules | `(tactic| k_dat 0 "rd") => `(tactic| first | with_reducible apply rd.val | with_reducible apply rd.own | (apply rd.slot; apply Eq.refl) | (apply rd.slotL; apply Eq.refl))
local macro_rules | `(tactic| k_dat 0 "rdS") => `(tactic| first | with_reducible (apply rdS.l; apply rd.val) | with_reducible (apply rdS.t; apply rd.val) | with_reducible (apply rdS.l; apply rd.own) | (apply rdS.l; apply rd.slotL; apply Eq.refl) | (apply rdS.l; apply rd.slot; apply Eq.refl) | (apply rdS.t; apply rd.slot; apply Eq.refl))
local macro_rules | `(tactic| k_dat 0 "rdD") => `(tactic| first | with_reducible apply rdD.val | with_reducible apply rdD.own | (apply rdD.slot; apply Eq.refl) | (apply rdD.slotP; apply Eq.refl))
local macro_rules | `(tactic| k_dat 0 "sc") => `(tactic| first | apply Sc.int | apply Sc.bl | apply Sc.str | apply Sc.non)
local macro_rules | `(tactic| k_dat 0 "asD") => `(tactic| first | with_reducible apply asD.val | with_reducible apply asD.own | (apply asD.slot; apply Eq.refl))
local macro_rules | `(tactic| k_dat 0 "asX") => `(tactic| first | with_reducible apply asX.pure | with_reducible apply asX.own | (apply asX.slot; apply Eq.refl) | with_reducible apply asX.keep)
local macro_rules | `(tactic| k_dat 0 "nf") => `(tactic| first | (conv => arg 3; dsimp only [wipeM, List.set, List.map]) | skip)
local macro_rules | `(tactic| k_dat 0 "eq") => `(tactic| first | (dsimp only [wipeM, List.set, List.map]; done) | (dsimp only [wipeM, List.set, List.map]; apply Eq.refl) | apply Eq.refl)
local macro_rules | `(tactic| k_dat 0 "st") => `(tactic| first
  | ((with_reducible apply x_seq); k_dat 0 "nf") | ((with_reducible apply x_parT2); (case hi => omega); (case hj => omega)) | ((with_reducible apply x_asg2); (case hi => omega); (case hj => omega)) | ((with_reducible apply x_asg3); (case hi => omega); (case hj => omega); (case hl => omega)) | ((with_reducible apply x_par4); (case hi => omega); (case hj => omega); (case hk => omega); (case hl => omega)) | ((with_reducible apply x_par2); (case hij => omega); (case hi => omega); (case hj => omega)) | with_reducible first | (apply x_asg; case hl => decide) | apply x_drop | apply x_ret | apply x_next | apply x_break | apply x_cont
  | apply x_dput (K := K) | apply x_putN (K := K) | apply x_retN)
local macro_rules | `(tactic| k_dat 0 "ex") => `(tactic| with_reducible first
  | apply ev_int (K := K) | apply ev_str (K := K) | apply ev_bl (K := K) | apply ev_non (K := K)
  | apply ev_tup (K := K) | apply ev_lst (K := K) | apply ev_op | apply ev_un | apply ev_sset_rows (K := K) | apply ev_sset_ints (K := K) | apply ev_cb1 | apply ev_cb2 | apply ev_andV (K := K) | apply ev_orV (K := K) | apply ev_notV (K := K) | apply ev_if
  | apply ev_sl | apply evO_none | apply evO_some (K := K) | apply ev_rev | apply ev_bm1 | apply ev_bm0 | apply ev_dnew (K := K) | apply ev_disp (K := K) | apply ev_dget1 (K := K) | apply ev_dget2 (K := K) | apply ev_dinI (K := K) | apply ev_dninI (K := K) | apply ev_chainI (K := K)
  | apply ev_call | apply ev_call1
  | apply evD_nil | apply evD_cons | apply evA_nil | apply evA_x (K := K) | apply evPs_nil | apply evPs_cons
  | apply ev_dispN (K := K) | apply evPsN_nil | apply evPsN_cons | apply ev_ninN (K := K) | apply ev_ninR (K := K) | apply ev_dcR (K := K)
  | apply evT_val (K := K) | apply evT_B (K := K) | apply evT_and | apply evT_or | apply evT_not | apply evT_yes)
local macro_rules | `(tactic| k_dat 0 "vr") => `(tactic| first
  | ((with_reducible apply ev_var); (case h => apply Eq.refl)) | ((with_reducible apply ev_at); (case h => apply Eq.refl))
  | ((with_reducible apply x_augI); (case hi => decide); (case h0 => apply Eq.refl)))
local macro_rules | `(tactic| k_dat 0 "tg") => `(tactic| first
  | (with_reducible apply tg_name) | ((with_reducible apply tg_move); (case h => apply Eq.refl)) | ((with_reducible apply tg_tup); (case hn => rfl)) | (with_reducible apply tg_row) | (with_reducible apply tgs_nil) | (with_reducible apply tgs_consN))
local macro_rules | `(tactic| k_dat 0 "len") => `(tactic| ((first | apply lt_line | apply le_line); (try simp only [List.length_map, List.length_append, List.length_cons, List.length_nil, List.length_range]); omega))
local macro_rules | `(tactic| k_dat 0 "op") => `(tactic| first
  | ((with_reducible apply op_i0 (K := K)); (case h1 => k_dat 0 "rd"); (case h2 => k_dat 0 "rd"); (case hd => k_dat 0 "sc"))
  | ((with_reducible apply op_eqI (K := K)); (case h1 => k_dat 0 "rd"); (case h2 => k_dat 0 "rd")) | ((with_reducible apply op_neI (K := K)); (case h1 => k_dat 0 "rd"); (case h2 => k_dat 0 "rd"))
  | ((with_reducible apply op_eqS (K := K)); (case h1 => k_dat 0 "rd"); (case h2 => k_dat 0 "rd")) | ((with_reducible apply op_neS (K := K)); (case h1 => k_dat 0 "rd"); (case h2 => k_dat 0 "rd"))
  | ((with_reducible apply op_ixR0 (K := K)); (case h1 => k_dat 0 "rd"); (case h2 => k_dat 0 "rd")) | ((with_reducible apply op_ixR1 (K := K)); (case h1 => k_dat 0 "rd"); (case h2 => k_dat 0 "rd")) | ((with_reducible apply op_ixR2 (K := K)); (case h1 => k_dat 0 "rd"); (case h2 => k_dat 0 "rd"))
  | ((with_reducible apply un_i (K := K)); (case h1 => k_dat 0 "rd"); (case hd => k_dat 0 "sc"))
  | ((with_reducible apply un_len (K := K)); (case h => k_dat 0 "rdS")) | ((with_reducible apply un_list (K := K)); (case h => k_dat 0 "rdS")) | ((with_reducible apply un_tuple (K := K)); (case h => first | (apply rdS.l; k_dat 0 "rd") | (apply rdS.t; k_dat 0 "rd")))
  | ((with_reducible apply un_int (K := K)); (case h => k_dat 0 "rd")) | ((with_reducible apply un_lenD (K := K)); (case h => k_dat 0 "rdD")) | ((with_reducible apply un_listK (K := K)); (case h => k_dat 0 "rdD"))
  | ((with_reducible apply op_append (K := K)); (case hd => k_dat 0 "asD"); (case e => apply Eq.refl); (case hl => k_dat 0 "len"))
  | ((with_reducible apply op_cat_ (K := K)); (case h1 => k_dat 0 "rd"); (case h2 => k_dat 0 "rd"); (case hl => k_dat 0 "len"))
  | ((with_reducible apply op_max2 (K := K)); (case h1 => k_dat 0 "rd"); (case h2 => k_dat 0 "rd")) | ((with_reducible apply op_min2 (K := K)); (case h1 => k_dat 0 "rd"); (case h2 => k_dat 0 "rd"))
  | ((with_reducible apply sl_list_ (K := K)); (case h1 => k_dat 0 "rd")) | ((with_reducible apply sl_tup_ (K := K)); (case h1 => k_dat 0 "rd")))
local macro_rules | `(tactic| k_dat 0 "sp") => `(tactic| first
  | ((with_reducible (apply Exists.intro; apply And.intro)); (case left => with_reducible apply Eq.refl))
  | ((with_reducible (apply Exists.intro; apply And.intro)); (case left => first | k_dat 0 "rd" | k_dat 0 "rdD"))
  | ((with_reducible apply And.intro); (case left => (with_reducible apply Exists.intro); k_dat 0 "rdD"))
  | ((with_reducible (apply Exists.intro; apply Exists.intro; apply And.intro)); (case left => first | k_dat 0 "asD" | k_dat 0 "asX"))
  | ((with_reducible apply And.intro); (case left => apply len_le; apply Eq.refl))
  | ((with_reducible (apply Exists.intro (Sum.inl _); apply And.intro)); (case left => apply Eq.refl)) | ((with_reducible (apply Exists.intro (Sum.inr _); apply And.intro)); (case left => apply Eq.refl)))
local macro_rules | `(tactic| k_dat 0 "wk") => `(tactic| with_reducible first | apply x_forD (K := K) | apply x_lc (K := K) | apply wkD_list | apply wkD_tup | apply wkD_seq | apply wkD_rng1 | apply wkD_rng2 | apply wkD_str)
local macro_rules | `(tactic| k_dat 0 "ml1") => `(tactic| first | k_dat 0 "st" | k_dat 0 "ex" | k_dat 0 "wk" | k_dat 0 "vr" | k_dat 0 "tg" | k_dat 0 "op" | k_dat 0 "sp")
local macro_rules | `(tactic| k_dat 0 "ml") => `(tactic| repeat k_dat 0 "ml1")
def begM (K : PySem.W.Frag) (C : Addr) : MSp := fun Rs q => ∃ (st : Int) (d : PyData) (R : List Row), Rs = [dat K (.int st), dat K d] ∧ seqD d R ∧ R.length ≤ 200 ∧ R.Nodup ∧ 0 ≤ st ∧ (∀ r ∈ R, CH.labelB r.2.1 = true ∧ 0 ≤ r.1 ∧ -1 ≤ r.2.2) ∧
  ∀ near R', Near R st near → BegR R st near R' → q (pu (chartP K C near.length R')) []
theorem scCb : FnScope ["start", "arrows", "found", "numbers", "state", "kept", "source", "label", "target"] ["start", "arrows"] (defScope sChartBegunAt) := ⟨rfl, rfl, rfl, by decide +kernel, rfl, by decide +kernel, by decide +kernel⟩
theorem ok_cb {f fI C : Addr} {fd fdI : FuncData} (G : Fun K "chart_begun_at" "chart_begun_at" sChartBegunAt f fd) (T : CH.Blt2 mg) (gE : ∃ u, mg CH.nEND = some u ∧ RelV (.int (-1)) u) (CC : ChC K mg C) (CM : Mk K C fI) (CI : FnOk P w K mg base CX0 4 fI fdI ["self", "states", "arrows"] (spInit K C)) (CB : Binds K fdI ["self", "states", "arrows"] [])
    (hreached_from : HasM P w K mg base "reached_from" 2 ["state", "arrows"] (S_reached_from K)) : FnG P w K mg base CX0 6 f fd ["start", "arrows"] (spOf 0 (begM K C)) := by
  refine fn_ml G scCb (fun Rs q ⟨_, _, _, h, _⟩ => by rw [h]; rfl) (by decide) fun cdv A outer s H E hrG => ?_
  have hr := hrG.room
  have hu := hu_of hr
  have hu64 := hr.units
  have hrI : Room 5 _ := hr.mono (by decide)
  obtain ⟨u2, g2, r2⟩ := gE
  refine ⟨_, (pss_cons (ps_set (i := 2) scCb.nd rfl (Or.inl rfl) (pe_callB (cr_sortedD hu64) (by rfl) T.b_sorted (by decide +kernel) (pa_cons (pe_callTy (call_list_dK rfl) (by rfl) T.b_list (by decide +kernel) (pa_cons (pe_hg hreached_from (hrG.mono (by decide)) rfl (pa_cons (pv 0) (pa_cons (pv 1) pa_nil))) pa_nil)) pa_nil)))
  (pss_cons (ps_set (i := 3) scCb.nd rfl (Or.inr rfl) (pe_disp (pps_cons (pe_glob rfl g2 r2) (pe_glob rfl g2 r2) (pps_cons (pv 0) pe_int pps_nil)) (by rfl) (by rfl) (fun z => by cases z) (by decide)))
  (pss_cons (ps_for PassesOwn.never rfl (pi_list (pv 2)) (pg_name (i := 4) scCb.nd rfl (Or.inl rfl))
    (pss_one (ps_if (pt_cmpR op_ne (pv 4) (pv 0) (nomark _))
    (pss_one (ps_dput hu (pv 3) (pv 4) (pe_op op_sub (pe_callB call_lenD (by rfl) T.b_len PySem.boot_len (pa_cons (pv 3) pa_nil)) pe_int) rfl))
    pss_nil)))
  (pss_cons (ps_setLc (i := 5) (own := [("source", 6), ("label", 7), ("target", 8)]) (g := gTup K 3 (gCons (gName 6) (gCons (gName 7) (gCons (gName 8) gNil)))) (tt := (tB (tDIn (tVar 6) (tVar 3)))) (te := (tTup (tCons (tDGet (tVar 3) (tVar 6)) (tCons (tVar 7) (tCons (tDGet (tVar 3) (tVar 8)) tNil))))) rfl scCb.nd rfl rfl (sw_true rfl rfl rfl (by decide +kernel)) (pi_seq (pv 1)) (blkOk_by (own := [("source", 6), ("label", 7), ("target", 8)]) (N := ["start", "arrows", "found", "numbers", "state", "kept", "source", "label", "target"]) (sc := defScope sChartBegunAt) (by decide +kernel)) (fun _ _ _ _ _ => (pg_tup (n := 3) rfl (pgs_cons (pg_name (i := 6) scCb.nd rfl (by first | exact Or.inl rfl | exact Or.inr rfl)) (pgs_cons (pg_name (i := 7) scCb.nd rfl (by first | exact Or.inl rfl | exact Or.inr rfl)) (pgs_cons (pg_name (i := 8) scCb.nd rfl (by first | exact Or.inl rfl | exact Or.inr rfl)) pgs_nil))))) (fun _ _ _ _ _ => pts_one (pt_cmp (pc_din hu (pv 6) (pv 3)))) (fun _ _ _ _ _ => (pe_tup (pa_cons (pe_dget hu (pv 3) (pv 6) (fun _ _ => rfl)) (pa_cons (pv 7) (pa_cons (pe_dget hu (pv 3) (pv 8) (fun _ _ => rfl)) pa_nil))))))
  (pss_one (ps_ret (pe_make CM CI hrI rfl CC.mgC CB .nil pass0 (pa_cons (pe_callB call_lenQ (by rfl) T.b_len PySem.boot_len (pa_cons (pv 2) pa_nil)) (pa_cons (pe_callTy call_tupQ (by rfl) T.b_tuple (by decide +kernel) (pa_cons (pe_callB (cr_sortedD hu64) (by rfl) T.b_sorted (by decide +kernel) (pa_cons (pv 5) pa_nil)) pa_nil)) pa_nil))))))))), ?_⟩
  rintro Rs q ⟨st, d, R, rfl, hd, hl, hnd, hst, hR, hq⟩
  rw [outF_eq]
  try dsimp only [cxOf, Cx.nox, Cx.wish]
  show ML.ex 0 _ [some (dat K (.int st)), some (dat K d), none, none, none, none, none, none, none] _
  k_dat 0 "ml"
  refine c_zero [_, _] ⟨R, st, d, rfl, hd, hl, fun F hF hFm => ?_⟩
  k_dat 0 "ml"
  have eK : (F.map fun x => ((Sum.inl x : Key), PyData.bool true)).map (fun kv => keyD kv.1) = F.map PyData.int := by
    rw [List.map_map]
    rfl
  refine un_sortedI eK rd.own hF fun near hpw hmem hlen => ?_
  have N : Near R st near := by
    refine ⟨hpw, fun x => (hmem x).trans (hFm x), fun x hx => ?_⟩
    have h := (hFm x).mp ((hmem x).mp hx)
    cases h with
    | refl => exact hst
    | step _ hz =>
      obtain ⟨h1, l, h2⟩ := mem_sucs.mp hz
      have := (hR _ h2).2.2
      simp only at this
      omega
  have hne : st ≠ -1 := by omega
  have hnl : near.length ≤ 201 := by
    have h1 := KS.nodup_leK near (st :: R.map (·.2.2)) (near_nodup N) fun x hx => by
      have h := (N.mem x).mp hx
      rcases Rch.tgt h (T := R.map (·.2.2)) (fun y z hz => by
        obtain ⟨_, l, hr⟩ := mem_sucs.mp hz
        exact List.mem_map.mpr ⟨_, hr, rfl⟩) with e | e
      · exact List.mem_cons.mpr (.inl e)
      · exact List.mem_cons_of_mem _ e
    rw [List.length_cons, List.length_map] at h1
    omega
  k_dat 0 "ml"
  refine ⟨show 2 ≤ 15 by decide, ?_⟩
  have ND := NumD.init hne
  generalize mmerge [((Sum.inl (-1) : Key), PyData.int (-1)), (Sum.inl st, .int 0)] = m0 at ND
  k_dat 0 "ml"
  refine for_pre near PyData.int rfl (fun pre ρ' => ∃ (m : List (Key × PyData)) (x4 : Option Res), ρ' = [some (dat K (.int st)), some (dat K d), some (dat K (.list (near.map .int))), some (dk K m), x4, none, none, none, none] ∧ NumD (orderOf st pre) m) ⟨m0, none, rfl, ND⟩ ?_ ?_
  · rintro pre x post ρ' epre ⟨m, x4, rfl, ND⟩
    have hxn : x ∈ near := by rw [epre]; exact List.mem_append_right _ List.mem_cons_self
    have hx1 : x ≠ -1 := by
      have := N.pos x hxn
      omega
    have hxp : x ∉ pre := by
      have h := near_nodup N
      rw [epre] at h
      exact fun z => (List.nodup_append.mp h).2.2 x z x List.mem_cons_self rfl
    have hml : m.length ≤ 1000 := by
      rw [ND.len]
      have h1 : (orderOf st pre).length ≤ 1 + pre.length := by
        unfold orderOf
        rw [List.length_cons]
        have := List.length_filter_le (fun x => decide (x ≠ st)) pre
        omega
      have h2 := congrArg List.length epre
      rw [List.length_append] at h2
      omega
    refine ⟨[4], by decide, ?_⟩
    k_dat 0 "ml"
    apply x_if
    k_dat 0 "ml"
    refine ⟨fun h => ?_, fun h => ?_⟩
    · have hx2 : x ≠ st := by simpa using h
      have hx3 : x ∉ orderOf st pre := by
        unfold orderOf
        intro z
        rcases List.mem_cons.mp z with z | z
        · exact hx2 z
        · exact hxp (List.mem_filter.mp z).1
      have e1 : ((m.length : Int) - 1) = ((orderOf st pre).length : Nat) := by
        rw [ND.len]
        omega
      k_dat 0 "ml"
      rw [e1]
      k_dat 0 "ml"
      refine ⟨⟨_, rfl⟩, ?_⟩
      k_dat 0 "ml"
      refine ⟨m, Sum.inl x, rfl, rfl, lt_line (by omega), _, _, rfl, ?_⟩
      rw [order_snoc hx2]
      exact ND.add hx1 hx3
    · have hx2 : x = st := by simpa using h
      subst hx2
      k_dat 0 "ml"
      exact ⟨m, _, rfl, by rw [order_same]; exact ND⟩
  rintro ρ' ⟨m, x4, rfl, ND⟩
  k_dat 0 "ml"
  refine ⟨d, _, rfl, hd, ?_⟩
  have hord : ∀ x, x ∈ orderOf st near ↔ x ∈ near := fun x => mem_order N
  refine lc_fm R rowD rfl (by omega) (fun r => decide (r.1 ∈ near)) (fun r => rowD (ren (numb (orderOf st near)) r)) (fun r hr => ⟨[6, 7, 8], by decide, ?_⟩) ?_
  · have h1 : r.1 ≠ -1 := by
      have := (hR r hr).2.1
      omega
    k_dat 0 "ml"
    rw [ND.has h1]
    refine ⟨fun h => ?_, fun h => ⟨by rw [← h]; exact decide_eq_decide.mpr (hord _).symm, by k_dat 0 "eq"⟩⟩
    have h2 : r.1 ∈ near := (hord _).mp (of_decide_eq_true h)
    have h3 := (kept_tgt N hr h2).imp id (hord _).mpr
    k_dat 0 "ml"
    refine ev_dget (K := K) (m := m) ?_
    k_dat 0 "ml"
    refine ⟨m, Sum.inl r.1, _, .slot rfl, rfl, ND.numb (.inr ((hord _).mpr h2)), ?_⟩
    k_dat 0 "ml"
    refine ev_dget (K := K) (m := m) ?_
    k_dat 0 "ml"
    refine ⟨m, Sum.inl r.2.2, _, .slot rfl, rfl, ND.numb h3, ?_⟩
    k_dat 0 "ml"
    exact ⟨decide_eq_true h2, rfl, by k_dat 0 "eq"⟩
  rw [kept_alike]
  k_dat 0 "ml"
  refine ev_make ?_
  k_dat 0 "ml"
  refine un_sorted (ds := ((keptR R near).map (ren (numb (orderOf st near)))).map rowD) (rd.slotL rfl) (rows_alike _) (rows_sortable _) (rows_dep _) fun ds' hp hw => ?_
  obtain ⟨ms, rfl, hm⟩ := perm_map_inv hp rfl
  rw [List.pairwise_map] at hw
  have B := beg_of N hnd hm hw
  have hok := beg_chart N B fun r hr => (hR r hr).1
  have hq' := hq near ms N B
  rw [show near.length = (near.map PyData.int).length from (List.length_map _).symm] at hok hq'
  k_dat 0 "ml"
  refine ⟨(near.map PyData.int).length, ms, rfl, Nat.le_trans (beg_len N B) hl, hok, ?_⟩
  exact ⟨_, [], ret_val rfl, hq'⟩
end
end K24

/-! t[::-1] of a tuple. -/
namespace HT
open PySem PySem.Spec PyProof.Rows
section
variable {prog : Program} {w : World} {A : Around} {E : Value → Shared → Prop} {s : Shared}
theorem places_rev (n : Nat) : Builtin.Slice.slicePlaces ((n : Int) - 1) (-1) (-1) = n := by
  unfold Builtin.Slice.slicePlaces
  rw [if_neg (by decide)]
  by_cases h : (n : Int) - 1 > -1
  · rw [if_pos h]
    have : ((n : Int) - 1 - -1 - 1) / - -1 + 1 = n := by
      rw [show (- -1 : Int) = 1 from rfl, Int.ediv_one]
      omega
    rw [this]
    rfl
  · rw [if_neg h]
    omega
theorem pick_rev (xs : Array Value) : ((List.range xs.size).filterMap fun (m : Nat) => xs[(((xs.size : Int) - 1) + (m : Int) * (-1)).toNat]?).toArray = xs.toList.reverse.toArray := by
  have ef : (fun m : Nat => xs[(((xs.size : Int) - 1) + (m : Int) * (-1)).toNat]?) = fun m => xs[xs.size - 1 - m]? := by
    funext m
    have : (((xs.size : Int) - 1) + (m : Int) * (-1)).toNat = xs.size - 1 - m := by omega
    rw [this]
  have e3 : ((List.range xs.size).map fun m => xs.size - 1 - m).filterMap (xs[·]?) = (List.range xs.size).filterMap fun m => xs[xs.size - 1 - m]? := by
    rw [List.filterMap_map]
    rfl
  rw [ef, ← e3, PySem.W.krv_range, List.filterMap_reverse, PySem.W.krv_all]
theorem getItem_tuple_rev {t sl : Addr} {items : Array Value} {vl vu vs : Value} {Q : Value → Shared → Prop} (ht : IsTup s.heap t items) (hs : s.heap.IsSliceOf sl vl vu vs) (pl : IsPart vl none) (pu : IsPart vu none) (ps : IsPart vs (some (-1)))
    (h : Q (.ref s.heap.objs.size) { s with heap := s.heap.push { cls := .type "tuple", data := .seq items.toList.reverse.toArray } }) (hsz : items.size ≤ sizeLine) : wpAny (model prog w) A (getItem (.ref t) (.ref sl)) Q E s := by
  obtain ⟨os, hos, hcs, hds⟩ := id hs
  have hT : s.TypeIs (.ref sl) "slice" := ⟨os, hos, hcs⟩
  have fits : sizeOk (.seq items.toList.reverse.toArray) := by
    show items.toList.reverse.toArray.size ≤ sizeLine
    rw [List.size_toArray, List.length_reverse, Array.length_toList]
    exact hsz
  unfold getItem
  try with_reducible refine wpAny_holding ?_
  refine wpAny_bind (wpAny_sequenceKey ht.typeIs (by decide) ?_)
  refine wpAny_bind (wpAny_callSpecial?_slot (name := Str.ofString "__getitem__") ht.typeIs PyProof.Rows.slot_tuple_getitem (wpAny_call_entry PyProof.Rows.slot_tuple_getitem ht.typeIs PyProof.Rows.entry_tuple_getitem ?_ (PyProof.Rows.args_tuple_getitem _ _)))
  show wpAny _ _ (Builtin.Tuple.tupleItemsOf (.ref t) >>= _) _ _ s
  refine wpAny_bind (tupleItemsOf_ ht (wpAny_bind (wpAny_typeOf hT ?_)))
  rw [if_pos (by decide)]
  have applied : ∀ {Q : Int × Int × Nat → Shared → Prop}, Q ((items.size : Int) - 1, -1, items.size) s → wpAny (model prog w) A.in1 (Builtin.Slice.sliceApplied (.ref sl) (pure (items.size : Int))) Q E s := fun {Q} q => by
    unfold Builtin.Slice.sliceApplied Builtin.Slice.sliceFields
    refine wpAny_bind (wpAny_bind (wpAny_field hos hds (x := vl) rfl (wpAny_bind (wpAny_field hos hds (x := vu) rfl (wpAny_bind (wpAny_field hos hds (x := vs) rfl (wpAny_pure ?_)))))))
    refine wpAny_bind (slicePart_ ps ?_)
    show wpAny _ _ (if ((-1 : Int) == 0) = true then _ else _) _ _ s
    rw [if_neg (by decide)]
    refine wpAny_bind (slicePart_ pl (wpAny_bind (slicePart_ pu (wpAny_bind (wpAny_pure (wpAny_pure ?_))))))
    show Q ((items.size : Int) - 1, -1, Builtin.Slice.slicePlaces ((items.size : Int) - 1) (-1) (-1)) s
    rw [places_rev]
    exact q
  refine wpAny_bind (applied ?_)
  show wpAny _ _ (if (((items.size : Int) - 1) == 0 && (-1 : Int) == 1 && items.size == items.size) = true then _ else _) _ _ s
  have no : (((items.size : Int) - 1) == 0 && (-1 : Int) == 1 && items.size == items.size) = false := by
    have e : ((-1 : Int) == 1) = false := rfl
    rw [e, Bool.and_false, Bool.false_and]
  rw [if_neg (by rw [no]; exact Bool.false_ne_true), pick_rev]
  first
    | exact wpAny_bind (m := Builtin.Tuple.tupleExact _) (wpAny_newObj_type (wpAny_pure ⟨_, rfl, wpAny_pure h⟩) fits)
    | exact wpAny_bind (m := Builtin.Tuple.tupleExact _) (wpAny_newObj_type (wpAny_bind (wpAny_pure (wpAny_pure ⟨_, rfl, wpAny_pure h⟩))) fits)
    | exact wpAny_bind (wpAny_bind (m := Builtin.Tuple.tupleExact _) (wpAny_newObj_type (wpAny_pure (wpAny_pure ⟨_, rfl, wpAny_pure h⟩)) fits))
    | exact wpAny_bind (wpAny_bind (m := Builtin.Tuple.tupleExact _) (wpAny_newObj_type (wpAny_pure ⟨_, rfl, wpAny_pure h⟩) fits))
end
end HT
namespace LB
open PySem PySem.Spec PyProof.Rows L2 KS GL
def tRevT (K : PySem.W.Frag) (te : TE) : TE := fun σ H Q => te σ H fun x H1 => ∃ a xs, x = .ref a ∧ SqT K H1 a xs ∧ ∀ p, H1 p = none → Q (.ref p) (upd H1 p (.tup xs.reverse))
theorem pe_revT {X : Cx} {e : Expr} {te : TE} {k : Nat} {p1 p2 p3 pos : Pos} (he : PE X e te) : PE X (.Subscript e (.Slice none none (some (.UnaryOp .USub (.Constant (.int 1) k p1) p2)) p3) pos) (tRevT X.K te) := by
  refine ⟨fun pins s σ H Q I h => Subscript_ (thn (he.run pins s σ H _ I h) fun v s1 ⟨x, H1, I1, r1, a, xs, ex, hx, q⟩ => ?_)⟩
  subst ex
  cases r1
  have step : PO X (some (.UnaryOp .USub (.Constant (.int 1) k p1) p2)) (tPart (tUn (rU fun i => .int (-i)) (tC (.int 1)))) := po_some (pe_un un_neg pe_int)
  refine wpAny_Slice (thn (po_none.run pins s1 σ H1 (fun o H2 => o = none ∧ H2 = H1) I1 ⟨rfl, rfl⟩) fun vl s2 ⟨l, H2, I2, pl, el, e2⟩ => thn (po_none.run pins s2 σ H2 (fun o H3 => o = none ∧ H3 = H2) I2 ⟨rfl, rfl⟩) fun vu s3 ⟨u, H3, I3, pu, eu, e3⟩ =>
    thn (step.run pins s3 σ H3 (fun o H4 => o = some (-1) ∧ H4 = H3) I3 ⟨1, rfl, -1, rfl, rfl, rfl⟩) fun vs s4 ⟨o, H4, I4, ps, eo, e4⟩ => ?_)
  subst el e2 eu e3 eo e4
  have I5 : Inv X pins σ H4 { s4 with heap := s4.heap.push { cls := .type "slice", data := .fields #[vl, vu, vs] } } := I4.kept (t' := s4.toks) fun b ob q => Heap.get?_push_of_some _ q
  obtain ⟨its, r, ht, hz⟩ := I5.tuple hx
  have hlen := r.length
  show wpAny (model X.prog X.w) X.A (subscriptTail e (.Slice none none (some (.UnaryOp .USub (.Constant (.int 1) k p1) p2)) p3) (.ref a) (.ref s4.heap.objs.size)) (EP X pins σ Q) X.xe { s4 with heap := s4.heap.push { cls := .type "slice", data := .fields #[vl, vu, vs] } }
  refine tail_any (ops := [.ref a, .ref s4.heap.objs.size]) ht.typeIs PyProof.Rows.slot_tuple_getitem.lookup ?_ (by with_unfolding_all rfl)
  refine HT.getItem_tuple_rev ht (Heap.IsSliceOf.new _ vl vu vs) pl pu ps ?_ (by rw [List.size_toArray]; omega)
  refine ⟨.ref _, _, I5.laid (t' := s4.toks) (o := .tup xs.reverse) (fun b ob q => Heap.get?_push_of_some _ q) (Nat.le_refl _) ?_, rfl, q _ (I5.hok.fresh (Nat.le_refl _))⟩
  exact ⟨by rw [List.length_reverse]; exact hz, its.reverse, r.reverse, _, Heap.get?_push_size _ rfl, rfl, 0, rfl⟩
end LB

/-! f(b = .., a = ..); repr of a bool; xs * n; t[::-1]. -/
namespace LB
open PySem PySem.Spec PyProof.Rows L2 KS GL ML
/-- the two arguments, the second one made first -/
def tSwap (ta tb : TE) : TA := fun σ H Q => ta σ H fun u H1 => tb σ H1 fun v H2 => Q [v, u] H2
structure HasM2 (P : Program) (w : World) (K : PySem.W.Frag) (mg : Str → Option Value) (base : Heap) (x : Str) (k : Nat) (y z : Str) (sp : Sp) : Prop where
  ex : ∃ f fd, FnG P w K mg base CX0 k f fd [y, z] sp ∧ mg x = some (.ref f) ∧ PySem.W.keepIn K (.ref f) = true ∧ ∀ (s : Shared) (u v : Value), BindsTo s fd ⟨[], [(z, u), (y, v)]⟩ [(y, v), (z, u)]
theorem pe_hg2 {X : Cx} {x y z : Str} {k : Nat} {sp : Sp} {e1 e2 : Expr} {ta tb : TE} {p k1 k2 pos : Pos} (h : HasM2 X.prog X.w X.K X.mg X.base x k y z sp) (hr : RoomG k X.A) (hg : Gl X x) (ha : PE X e1 ta) (hb2 : PE X e2 tb) (hdb : (x == ("__debug__" : Str)) = false := by decide)
    (hall : (backToKw pos (keywordEach [⟨some z, e1, k1⟩, ⟨some y, e2, k2⟩] X.env)).all (·.1.isSome) = true := by rfl) (hks : (backToKw pos (keywordEach [⟨some z, e1, k1⟩, ⟨some y, e2, k2⟩] X.env)).filterMap (·.1) = [z, y] := by rfl)
    (hpl : ((backTo pos (starEach [] X.env)).any (·.1) || (backToKw pos (keywordEach [⟨some z, e1, k1⟩, ⟨some y, e2, k2⟩] X.env)).any (·.1.isNone)) = false := by rfl) :
    PE X (.Call (.Name x p) [] [⟨some z, e1, k1⟩, ⟨some y, e2, k2⟩] pos) (tCall sp [] E0 (tSwap ta tb)) := by
  obtain ⟨f, fd, F, hm, hk, hb⟩ := h.ex
  refine ⟨fun pins s σ H Q I h => wpAny_Call_Name_kw (ld_glob I hg hm ?_ hdb)⟩
  refine PySem.W.callWith_KW0 (h₀ := X.base) I.ok.mod.kin hk hall ?_ hpl
  refine thn ((pk_cons ha (pk_cons hb2 pk_nil)).run pos pins s σ H (fun vs H1 => match vs with | [u, v] => sp [v, u] H1 Q E0 | _ => False) I h) fun ws s2 ⟨zs, H2, I2, rz, q2⟩ => ⟨I2.kIn, ?_⟩
  match zs, rz, q2 with
  | [u, v], rz, q2 =>
    obtain ⟨⟩ | ⟨r1, r2⟩ := rz
    obtain ⟨⟩ | ⟨r2, r3⟩ := r2
    cases r3
    rw [hks]
    refine wpAny_call (codeAny_mono (F.run X.A X.stack s2 H2 ⟨[], [(z, _), (y, _)]⟩ [_, _] [v, u] Q E0 hr I2.env0 (hb s2 _ _) (.cons r2 (.cons r1 .nil)) q2) fun r s' hq => ?_)
    have fin := end_fn pass0 I2 hq
    cases r with
    | error er => exact fin
    | ok fl => cases fl <;> exact fin
section
variable {K : PySem.W.Frag} {ρ : MS} {ta tb : TE}
theorem evA_swap2 {Q : List Rt → MS → Prop} (h : ev ta ρ fun r1 ρ1 => ∃ P1 : Pd, r1 = .val (pu P1) ∧ ev tb ρ1 fun r2 ρ2 => ∃ P2 : Pd, r2 = .val (pu P2) ∧ Q [.val (pu P2), .val (pu P1)] ρ2) : evA (tSwap ta tb) ρ Q := by
  intro σ H0 H G k S hk
  refine h σ H0 H G _ S fun r1 ρ1 u f1 H1 H1' ⟨P1, e1, h1⟩ p1 => ?_
  subst e1
  refine h1 σ H1 H1' G _ (p1.sat.frame fun _ => .inl) fun r2 ρ2 v f2 H2 H2' ⟨P2, e2, q⟩ p2 => ?_
  subst e2
  exact hk _ ρ2 [v, u] (fun _ => False) H2 H2' q ⟨p1.ext.trans p2.ext, ⟨v, [u], fun _ => False, fun _ => False, rfl, ⟨p2.rt.1, fun _ h => h⟩, ⟨u, [], fun _ => False, fun _ => False, rfl, ⟨P1.mono p1.rt.1 p2.ext.s0, fun _ h => h⟩, ⟨rfl, fun _ h => h⟩, fun _ => by simp, fun _ h => h.elim⟩, fun _ => by simp, fun _ h => h.elim⟩,
    fun _ h => h.elim, p2.sat.frame fun a ha => .inl (ha.resolve_right id)⟩
end
/-! ### repr of a bool -/
def boolS (b : Bool) : Str := if b then "True" else "False"
theorem boolS_inj {a b : Bool} (h : boolS a = boolS b) : a = b := by
  cases a <;> cases b <;> first | rfl | exact absurd h (by decide +kernel)
def rReprB : List V → Hp → VK → Prop := fun vs H Q => ∃ b : Bool, vs = [.bl b] ∧ Q (.str (boolS b)) H
theorem cr_reprB {X : Cx} : CallR X (.builtin "repr") rReprB := by
  intro pins s σ H xs us Q I r h
  obtain ⟨b, rfl, q⟩ := h
  obtain ⟨⟩ | ⟨r1, r2⟩ := r
  cases r2
  obtain rfl := (show _ = Value.bool b from r1)
  exact PySem.P.repr_of_bool ⟨.str (boolS b), H, I.tok _, ⟨_, rfl⟩, q⟩
theorem un_reprB {K : PySem.W.Frag} {ρ : MS} {Q : Rt → MS → Prop} {r1 : Rt} {b : Bool} (h : rd K ρ r1 (.bool b)) (q : Q (.val (dat K (.str (boolS b)))) ρ) : unR (fun v H k => rReprB [v] H k) r1 ρ Q :=
  un_sc h (fun H v1 k e hk => by
    cases e
    exact ⟨b, rfl, hk _ (.str _)⟩) q
/-! ### xs * n, t[::-1] -/
theorem da_rep {K : PySem.W.Frag} {H : Hp} {xs : List V} {ds : List PyData} (h : DaAll K H xs ds) : ∀ n : Nat, DaAll K H (List.replicate n xs).flatten (List.replicate n ds).flatten
  | 0 => .nil
  | n + 1 => by
    rw [List.replicate_succ, List.replicate_succ, List.flatten_cons, List.flatten_cons]
    exact DaAll.append h (da_rep h n)
theorem op_rep_ {K : PySem.W.Frag} {ρ : MS} {Q : Rt → MS → Prop} {r1 r2 : Rt} {ds : List PyData} {n : Int} (h1 : rd K ρ r1 (.list ds)) (h2 : rd K ρ r2 (.int n)) (hn : -(2 ^ 63) ≤ n ∧ n < 2 ^ 63) (hl : ds.length * n.toNat ≤ sizeLine) (q : Q (.val (lo K (List.replicate n.toNat ds).flatten)) ρ) : opR rRep r1 r2 ρ Q := by
  intro σ H0 H G v1 v2 f1 f2 k S e1 e2 _ _ _ hk
  obtain ⟨a, xs, rfl, ha, hx⟩ := h1.list S e1
  obtain rfl := h2.int S e2
  refine ⟨a, n, xs, rfl, rfl, ha, hn.1, hn.2, by rw [hx.len]; exact hl, fun p hp => ?_⟩
  exact hk _ _ _ _ _ _ q (post_own (S.frame fun _ => .inl) hp (da_rep hx _))
theorem ev_revT {K : PySem.W.Frag} {ρ : MS} {Q : Rt → MS → Prop} {te : TE} (h : ev te ρ fun r ρ1 => ∃ ds, rd K ρ1 r (.tuple ds) ∧ Q (.val (dat K (.tuple ds.reverse))) ρ1) : ev (tRevT K te) ρ Q := by
  intro σ H0 H G k S hk
  refine h σ H0 H G _ S fun r ρ1 v f H1 H1' ⟨ds, hd, q⟩ p => ?_
  have S1 : Sat ρ1 σ H1 H1' G := p.sat.frame fun _ => .inl
  obtain ⟨a, xs, rfl, ha, hx⟩ := hd.tup p.sat p.rt
  refine ⟨a, xs, rfl, sqT_mono S1.same ha, fun t ht => ?_⟩
  have h0 := S1.same.free ht
  have P := post_new (o := .tup xs.reverse) S1 ht (d := .tuple ds.reverse) (.tup (.inl (.inl upd_same)) (DaAll.mono (same_upd h0) _ _ hx.reverse))
  exact hk _ _ _ _ _ _ q ⟨p.ext.trans P.ext, P.rt, P.dis, P.sat⟩
end LB

/-! Methods called, by position, by name, with a star; own == and own len: at the layer that knows of guards, and for what is known. -/
namespace LB
open PySem PySem.Spec PyProof.Rows L2 KS GL ML
/-- a promise by positional values -/
def FnGR (P : Program) (w : World) (K : PySem.W.Frag) (mg : Str → Option Value) (base : Heap) (k : Nat) (f : Addr) (sp : Sp) : Prop :=
  ∀ (A : Around) (outer : List Env) (s : Shared) (H : Hp) (us : List Value) (vs : List V) (Q : VK) (E : XK), RoomG k A → Env0 P w K mg base A outer s H → Vals vs us → sp vs H Q E →
    codeAny (model P w) A (.call (.ref f) ⟨us, []⟩) (CR CX0 outer P w H s Q E) s
section
variable {P : Program} {w : World} {K : PySem.W.Frag} {mg : Str → Option Value} {base : Heap} {k : Nat} {f : Addr} {sp : Sp}
theorem FnG.raw {fd : FuncData} {ps : List Str} (F : FnG P w K mg base CX0 k f fd ps sp) (hb : Binds K fd ps []) : FnGR P w K mg base k f sp := by
  intro A outer s H us vs Q E hr e0 r hs
  have hl : us.length = ps.length := by rw [← r.length]; exact F.len _ _ _ _ hs
  have h2 := hb s us (e0.mod.kin.keeps fun b o e => (e0.bs b o e).1) (by simpa using hl)
  exact F.run A outer s H ⟨us, []⟩ us vs Q E hr e0 (by simpa using h2) r hs
end
section
variable {X : Cx} {pins : List (Addr × Obj)} {σ : L2.St} {H : Hp} {s : Shared}
theorem run_fnGR {k : Nat} {f : Addr} {sp : Sp} {E : XK} {Q : VK} {us : List Value} {vs : List V} (F : FnGR X.prog X.w X.K X.mg X.base k f sp) (hr : RoomG k X.A) (hx : Passes CX0 X E) (I : Inv X pins σ H s) (r : Vals vs us) (h : sp vs H Q E) :
    wpAny (model X.prog X.w) X.A (call (.ref f) us) (EP X pins σ Q) X.xe s := by
  refine wpAny_call (codeAny_mono (F X.A X.stack s H us vs Q E hr I.env0 r h) fun r s' hq => ?_)
  have z := end_fn hx I hq
  cases r with
  | error er => exact z
  | ok fl => cases fl <;> exact z
end
/-- o.m(..) with any number of values -/
def tMethG (C : Addr) (m : Str) (sp : Sp) (ta : TE) (t : TA) : TE := fun σ H Q => ta σ H fun x H1 => ∃ a dx fs, x = .ref a ∧ H1 a = some (.ins C dx fs) ∧ fs.lookup m = none ∧ t σ H1 fun vs H2 => sp (x :: vs) H2 Q E0
theorem pe_methG {X : Cx} {k : Nat} {C f : Addr} {m : Str} {sp : Sp} {o e : Expr} {es : List Expr} {ta : TE} {t : TA} {apos pos : Pos} {pl : Sem Bool} (he : PE X o ta) (c : Cls X.K C) (hm : Meth X.K C m f)
    (F : FnGR X.prog X.w X.K X.mg X.base k f sp) (hr : RoomG k X.A) (ha : PA X (e :: es) t)
    (hst : starEach (e :: es) X.env = (false, eval e X.env) :: starEach es X.env := by rfl) (hpl : (backTo pos (starEach es X.env)).any (·.1) = false := by rfl)
    (ht : eval (.Call (.Attribute o m apos) (e :: es) [] pos) X.env = (do
      let ov ← eval o X.env
      standAt apos.atName
      let (f, first) ← holding [ov] (getMethod ov m pl)
      callWith pos f first (backTo pos (starEach (e :: es) X.env)) (backToKw pos (keywordEach [] X.env))) := by rfl) :
    PE X (.Call (.Attribute o m apos) (e :: es) [] pos) (tMethG C m sp ta t) := by
  refine ⟨fun pins s σ H Q I h => ?_⟩
  refine PySem.W.methodCall_KW (pl := pl) (thn (he.run pins s σ H _ I h) fun u s1 ⟨x, H1, I1, rx, a, dx, fs, ex, ea, l, q⟩ => ?_) ht
  subst ex
  obtain rfl : u = Value.ref a := rx
  refine getmeth_ok I1 ea c hm l ?_
  refine PySem.W.callWith_K (first := [.ref a]) (h₀ := X.base) I.ok.mod.kin hm.kp (thn (ha.run pos pins s1 σ H1 _ I1 q) fun us s2 ⟨vs, H2, I2, r, q2⟩ => ⟨I2.kIn, ?_⟩) hst hpl
  exact run_fnGR (us := .ref a :: us) (vs := .ref a :: vs) F hr pass0 I2 (.cons rfl r) q2
theorem pe_methG0 {X : Cx} {k : Nat} {C f : Addr} {m : Str} {sp : Sp} {o : Expr} {ta : TE} {apos pos : Pos} {pl : Sem Bool} (he : PE X o ta) (c : Cls X.K C) (hm : Meth X.K C m f) (F : FnGR X.prog X.w X.K X.mg X.base k f sp) (hr : RoomG k X.A)
    (ht : eval (.Call (.Attribute o m apos) [] [] pos) X.env = (do
      let ov ← eval o X.env
      standAt apos.atName
      let (f, first) ← holding [ov] (getMethod ov m pl)
      callWith pos f first (backTo pos (starEach [] X.env)) (backToKw pos (keywordEach [] X.env))) := by rfl) :
    PE X (.Call (.Attribute o m apos) [] [] pos) (tMethG C m sp ta tNil) := by
  refine ⟨fun pins s σ H Q I h => ?_⟩
  refine PySem.W.methodCall_KW (pl := pl) (thn (he.run pins s σ H _ I h) fun u s1 ⟨x, H1, I1, rx, a, dx, fs, ex, ea, l, q⟩ => ?_) ht
  subst ex
  obtain rfl : u = Value.ref a := rx
  refine getmeth_ok I1 ea c hm l ?_
  exact PySem.W.callWith_K0 (first := [.ref a]) I1.kIn hm.kp (run_fnGR (us := [.ref a]) (vs := [.ref a]) F hr pass0 I1 (.cons rfl .nil) q)
/-- o.m(y = ..) -/
theorem pe_methGK {X : Cx} {k : Nat} {C f : Addr} {fd : FuncData} {ps : List Str} {m y : Str} {sp : Sp} {o e : Expr} {ta te : TE} {apos pos kp : Pos} {pl : Sem Bool} (he : PE X o ta) (c : Cls X.K C) (hm : Meth X.K C m f)
    (F : FnG X.prog X.w X.K X.mg X.base CX0 k f fd ps sp) (hr : RoomG k X.A) (ha : PE X e te) (hb : ∀ (s : Shared) (a u : Value), BindsTo s fd ⟨[a], [(y, u)]⟩ (ps.zip [a, u]))
    (hall : (backToKw pos (keywordEach [⟨some y, e, kp⟩] X.env)).all (·.1.isSome) = true := by rfl) (hks : (backToKw pos (keywordEach [⟨some y, e, kp⟩] X.env)).filterMap (·.1) = [y] := by rfl)
    (hpl : ((backTo pos (starEach [] X.env)).any (·.1) || (backToKw pos (keywordEach [⟨some y, e, kp⟩] X.env)).any (·.1.isNone)) = false := by rfl)
    (ht : eval (.Call (.Attribute o m apos) [] [⟨some y, e, kp⟩] pos) X.env = (do
      let ov ← eval o X.env
      standAt apos.atName
      let (f, first) ← holding [ov] (getMethod ov m pl)
      callWith pos f first (backTo pos (starEach [] X.env)) (backToKw pos (keywordEach [⟨some y, e, kp⟩] X.env))) := by rfl) :
    PE X (.Call (.Attribute o m apos) [] [⟨some y, e, kp⟩] pos) (tMethG C m sp ta (tCons te tNil)) := by
  refine ⟨fun pins s σ H Q I h => ?_⟩
  refine PySem.W.methodCall_KW (pl := pl) (thn (he.run pins s σ H _ I h) fun u s1 ⟨x, H1, I1, rx, a, dx, fs, ex, ea, l, q⟩ => ?_) ht
  subst ex
  obtain rfl : u = Value.ref a := rx
  refine getmeth_ok I1 ea c hm l ?_
  refine PySem.W.callWith_KW0 (first := [.ref a]) (h₀ := X.base) I.ok.mod.kin hm.kp hall ?_ hpl
  refine thn ((pk_cons ha pk_nil).run pos pins s1 σ H1 (fun vs H2 => match vs with | [v] => sp [.ref a, v] H2 Q E0 | _ => False) I1 q) fun us s2 ⟨vs, H2, I2, r, q2⟩ => ⟨I2.kIn, ?_⟩
  match vs, r, q2 with
  | [v1], r, q2 =>
    obtain ⟨⟩ | ⟨r1, r2⟩ := r
    cases r2
    rw [hks]
    refine wpAny_call (codeAny_mono (F.run X.A X.stack s2 H2 ⟨[.ref a], [(y, _)]⟩ [.ref a, _] [.ref a, v1] Q E0 hr I2.env0 (hb s2 _ _) (.cons rfl (.cons r1 .nil)) q2) fun r s' hq => ?_)
    have z := end_fn pass0 I2 hq
    cases r with
    | error er => exact z
    | ok fl => cases fl <;> exact z
end LB

/-! A def with a star parameter; own == and own len. -/
namespace LB
open PySem PySem.Spec PyProof.Rows L2 KS GL ML
section
variable {P : Program} {w : World} {K : PySem.W.Frag} {mg : Str → Option Value} {base : Heap} {k : Nat} {f : Addr} {sp : Sp} {ps : List Str}
def starSp (n : Nat) (sp : Sp) : Sp := fun vs H Q E => ∃ ws rest, vs = ws ++ rest ∧ ws.length = n ∧ rest.length ≤ sizeLine ∧ ∀ p, H p = Option.none → sp (ws ++ [V.ref p]) (upd H p (.tup rest)) Q E
theorem fn_starG {x qual pv : Str} {st : Stmt} {N : List Str} {fd : FuncData} (F : Fun K x qual st f fd) (S : FnScope N (ps ++ [pv]) (defScope st))
    (hb : ∀ us rest : List Value, us.length = ps.length → bindArgs fd ⟨us ++ rest, []⟩ = (newTuple rest >>= fun t => pure (ps.zip us ++ [(pv, t)])))
    (hbody : ∀ (cdv : Value) (A : Around) (outer : List Env) (s : Shared) (H : Hp) (vs : List V) (Q : VK) (E : XK), RoomG k (A.deeper (envOfC qual (defScope st) s.heap.objs.size f cdv)) → sp vs H Q E →
      ∃ t, PSs (cxOf CX0 P w K mg base N qual (defScope st) f cdv A outer s H E).nox (defBody st) t ∧ t { nx := fun _ H' => Q .non H', rt := Q } (start N vs) H) :
    FnGR P w K mg base (k + 1) f (starSp ps.length sp) := by
  obtain ⟨oc, od, kV, doc, pm, an, cdv, ct, osl, rfl, lk, hcd⟩ := F.ex
  intro A outer s H us vs Q E hr e0 r hsp
  obtain ⟨ws, rest, ev, hl, hz, hq⟩ := hsp
  subst ev
  obtain ⟨u1, u2, eu, r1, r2⟩ := StX.vals_split r
  subst eu
  have hn : H s.heap.objs.size = Option.none := e0.hok.fresh (Nat.le_refl _)
  have hl1 : u1.length = ps.length := by rw [← r1.length]; exact hl
  have hl2 : u2.length ≤ sizeLine := by rw [← r2.length]; exact hz
  have KX : K.In s.heap := e0.mod.kin.keeps fun b o e => (e0.bs b o e).1
  refine codeAny_call_function hr.room.depth (KX _ _ lk) rfl S.co S.gen rfl (PySem.W.codeRec_of KX hcd) ?_
  rw [hb u1 u2 hl1]
  refine wpAny_bind (wpAny_newTuple (wpAny_pure ?_) hl2)
  have new : ObjOk P w (upd H s.heap.objs.size (.tup rest)) (s.heap.push ({ cls := .type "tuple", data := .seq u2.toArray } : Obj)) s.heap.objs.size (.tup rest) := ⟨hz, u2, r2, ⟨_, Heap.get?_push_size _ rfl, rfl, _, rfl⟩⟩
  have un := StX.un_laid (fs := frs outer) (s := s) (o := ({ cls := .type "tuple", data := .seq u2.toArray } : Obj)) (u := .tup rest) hn
  have e2 := StX.env0_laid e0 new
  have hsp2 := hq _ hn
  have rr : Vals (ws ++ [V.ref s.heap.objs.size]) (u1 ++ [Value.ref s.heap.objs.size]) := r1.append (.cons rfl .nil)
  have hlen : (ws ++ [V.ref s.heap.objs.size]).length = (ps ++ [pv]).length := by rw [List.length_append, List.length_append, hl] <;> rfl
  have ez : (ps ++ [pv]).zip (u1 ++ [Value.ref s.heap.objs.size]) = ps.zip u1 ++ [(pv, Value.ref s.heap.objs.size)] := by
    rw [List.zip_append hl1.symm]
    rfl
  have hkind : ∀ y ∈ (ps ++ [pv]).zip (u1 ++ [Value.ref s.heap.objs.size]), (defScope st).names.lookup y.1 = some .local ∨ ((defScope st).names.lookup y.1 = some .cell ∧ ((cellsFrom ((s.heap.push ({ cls := .type "tuple", data := .seq u2.toArray } : Obj)).objs.size + 1) (defScope st).names []).lookup y.1).isSome = true) := by
    rintro ⟨n, v⟩ hy
    exact (S.par n (List.of_mem_zip hy).1).elim .inl fun q => .inr ⟨q, PySem.W.cellsFrom_some _ _ _ (.inl q)⟩
  have lim : (s.heap.push ({ cls := .type "tuple", data := .seq u2.toArray } : Obj)).NoLimit := e0.mod.nolimit.keeps fun b o e => (e2.bs b o e).1
  rw [← ez]
  refine wpAny_newFunctionEnv_cells (s := { s with heap := s.heap.push ({ cls := .type "tuple", data := .seq u2.toArray } : Obj) }) S.kind hkind fun env he s1 x => ?_
  subst he
  refine ⟨lim.keeps x.toInCall.keep, codeAny_func ?_⟩
  obtain ⟨t, ht, hq2⟩ := hbody cdv A outer { s with heap := s.heap.push ({ cls := .type "tuple", data := .seq u2.toArray } : Obj) } _ (ws ++ [V.ref s.heap.objs.size]) Q E (hr.deeper _) hsp2
  have I : Inv (cxOf CX0 P w K mg base N qual (defScope st) f cdv A outer { s with heap := s.heap.push ({ cls := .type "tuple", data := .seq u2.toArray } : Obj) } _ E) [] (start N (ws ++ [V.ref s.heap.objs.size])) _ s1 := inv_start S hr.room.hd e2 hlen rr x
  refine wpAny_mono (ht.nox.run [] s1 _ _ _ I hq2) (fun fl s' hs => ?_) fun e s' hs => hs
  have fin : ∀ {σ' : L2.St} {H' : Hp} {v' : V} {u' : Value}, Inv (cxOf CX0 P w K mg base N qual (defScope st) f cdv A outer { s with heap := s.heap.push ({ cls := .type "tuple", data := .seq u2.toArray } : Obj) } (upd H s.heap.objs.size (.tup rest)) E) [] σ' H' s' → RelV v' u' → Q v' H' → CE outer P w H s Q u' s' :=
    fun {σ' H' v' u'} J rv' q => ⟨v', H', J.os, J.bare, un.trans J.base, J.hok, rv', q⟩
  cases fl with
  | ret u' =>
    obtain ⟨v', σ', H', J, rv', q⟩ := hs
    exact fin J rv' q
  | next =>
    obtain ⟨σ', H', J, q⟩ := hs
    exact fin (v' := V.non) (u' := Value.none) J rfl q
  | brk =>
    obtain ⟨_, _, _, q⟩ := hs
    exact False.elim q
  | cont =>
    obtain ⟨_, _, _, q⟩ := hs
    exact False.elim q
end
/-! ### own ==, own len -/
def rEqOwn (C : Addr) (sp : Sp) : R2 := fun x y H Q => ∃ a b dx dy fs gs, x = .ref a ∧ y = .ref b ∧ H a = some (.ins C dx fs) ∧ H b = some (.ins C dy gs) ∧ sp [.ref a, .ref b] H (fun v H' => (∃ b, v = .bl b) ∧ Q v H') E0
theorem op_eqOwn {X : Cx} {k : Nat} {C f : Addr} {sp : Sp} (F : FnGR X.prog X.w X.K X.mg X.base k f sp) (hr : RoomG k X.A) (hs : PySem.W.findIn X.K (.ref C) "__eq__" = some (some (.ref f))) (hf : PySem.W.isFn X.K (.ref f) = true) : OpR X (compareOp .Eq) (rEqOwn C sp) := by
  intro pins s σ H x y v u Q I rx ry hq
  obtain ⟨a, b, dx, dy, fs, gs, rfl, rfl, ha, hb', hsp⟩ := hq
  cases rx
  cases ry
  show wpAny (model X.prog X.w) X.A (richCompare .Eq (.ref a) (.ref b)) (EP X pins σ Q) X.xe s
  obtain ⟨mA, J, _⟩ := ins_get I.hok ha
  obtain ⟨mB, J', _⟩ := ins_get I.hok hb'
  obtain ⟨od, J, _⟩ := J.look
  obtain ⟨od', J', _⟩ := J'.look
  obtain ⟨m, hF⟩ := I.fr
  refine PySem.W.cmp_K (op := .Eq) (tb := .ref C) hr.room.units0 hF I.ok.mod.kin J J'.type (by simp [PySem.W.notFirst]) hs hf ?_
  refine wpAny_mono (run_fnGR (us := [.ref a, .ref b]) (vs := [.ref a, .ref b]) F hr pass0 I (.cons rfl (.cons rfl .nil)) hsp) (fun z s' hz => ?_) fun _ _ e => e
  obtain ⟨v', H', I', rv, ⟨bb, e⟩, q⟩ := hz
  subst e
  obtain rfl : z = Value.bool bb := rv
  exact ⟨.bl bb, H', I', rfl, q⟩
def rLenOwn (C : Addr) (sp : Sp) : List V → Hp → VK → Prop := fun xs H Q => ∃ a dx fs, xs = [V.ref a] ∧ H a = some (.ins C dx fs) ∧ sp [.ref a] H (fun v H' => (∃ n : Nat, v = .int n ∧ n < 2 ^ 60) ∧ Q v H') E0
theorem call_lenOwn {X : Cx} {k : Nat} {C f : Addr} {sp : Sp} (F : FnGR X.prog X.w X.K X.mg X.base k f sp) (hr : RoomG (k + 1) X.A) (hs : PySem.W.findIn X.K (.ref C) "__len__" = some (some (.ref f))) (hf : PySem.W.isFn X.K (.ref f) = true) : CallR X (.builtin "len") (rLenOwn C sp) := by
  intro pins s σ H xs us Q I r h
  obtain ⟨a, dx, fs, rfl, ha, hsp⟩ := h
  obtain ⟨⟩ | ⟨r1, r2⟩ := r
  cases r2
  cases r1
  obtain ⟨mA, J, _⟩ := ins_get I.hok ha
  obtain ⟨od, J, _⟩ := J.look
  obtain ⟨m, hF⟩ := I.fr
  refine PySem.W.len_K hF I.ok.mod.kin J hs hf ?_
  refine wpAny_call (codeAny_mono (F X.A.in1 X.stack s H [.ref a] [.ref a] _ E0 ⟨hr.room.in1, hr.gd⟩ I.env0.in1 (.cons rfl .nil) hsp) fun z s' hq => ?_)
  have fin := end_fn pass0 I hq
  cases z with
  | error er => exact fin
  | ok fl =>
    cases fl with
    | ret u =>
      obtain ⟨v', H', I', rv, ⟨n, e, hn⟩, q⟩ := fin
      subst e
      obtain ⟨t, rfl⟩ := rv
      refine ⟨⟨by omega, by omega⟩, .int n, H', ?_, ⟨_, rfl⟩, q⟩
      exact I'.kept (t' := s'.toks + 1) fun b o e => e
    | next => exact fin
    | brk => exact fin
    | cont => exact fin
end LB
namespace ML
open PySem PySem.Spec PyProof.Rows L2 KS GL LB
section
variable {K : PySem.W.Frag} {ρ : MS} {Q : Rt → MS → Prop} {te ta : TE} {t : TA} {r1 r2 : Rt} {C : Addr} {m : Str} {M : MSp}
theorem sp_call0 {σ : L2.St} {H1 H1' : Hp} {G : FP} {Ps : List Pd} {vs : List V} {k : VK} (S1 : Sat ρ σ H1 H1' G) (la : vs.length = Ps.length) (ga : ∀ (i : Nat) (P : Pd), Ps[i]? = some P → ∃ v, vs[i]? = some v ∧ P.p H1 v) (m : M (Ps.map pu) fun R _ => Q (.val R) ρ)
    (hk : ∀ r ρ' v f H0' H', Q r ρ' → Post G σ H1 H1' r ρ' v f H0' H' → k v H') : spOf 0 M vs H1' k E0 := by
  obtain ⟨F, h1, h2, h3, h4⟩ := S1.sl
  have lvF : ∀ i a, F i a → H1' a ≠ none ∧ H1 a = none := fun i a ha => by
    obtain ⟨R, hR⟩ := h4 i a ha
    obtain ⟨v, _, r⟩ := h1 i R hR
    exact R.live r ha
  refine ⟨Ps.map pu, H1, fun a => G a ∨ owned F a, _, ⟨S1.same, by simp [la], fun a ha => ha.elim (S1.fr a) fun ⟨i, hi⟩ => lvF i a hi, fun _ _ => False, fun i R hR => ?_, fun _ _ _ h => h.elim, fun _ _ h => h.elim, fun _ _ h => h.elim⟩, m, fun R Rs' q v f H2 H2' e r hd S2 => ?_⟩
  · rw [List.map_map, List.getElem?_map] at hR
    cases e : Ps[i]? with
    | none => rw [e] at hR; cases hR
    | some P =>
      rw [e] at hR
      obtain rfl : pu P = R := Option.some.inj (Option.some.inj hR)
      obtain ⟨v, ev, hv⟩ := ga i P e
      exact ⟨v, by rw [List.getElem?_map, ev]; rfl, hv, fun _ h => h⟩
  · refine hk (.val R) ρ v f H2 H2' q ⟨⟨e.s0, fun a ha => e.fr a (.inl ha)⟩, r, fun a ha hg => hd a ha (.inl hg), S2.same, S1.len, fun a ha => ha.elim (fun hg => S2.fr a (.inl (.inl hg))) fun hf => S2.fr a (.inr hf), F, fun i R' hR => ?_, h2, fun i a ha hg => hg.elim (h3 i a ha) fun hf => hd a hf (.inr ⟨i, ha⟩), h4⟩
    obtain ⟨w, ew, rw_⟩ := h1 i R' hR
    exact ⟨w, ew, R'.loc rw_ e.s0 fun a ha => ⟨e.fr a (.inr ⟨i, ha⟩), (S2.fr a (.inl (.inr ⟨i, ha⟩))).2⟩⟩
theorem body_ml {np n : Nat} {N : List Str} {vs : List V} {H : Hp} {Qv : VK} {E : XK} {t : TS} (hl : ∀ Rs q, M Rs q → Rs.length = n) (hnp : np ≤ n) (hx : ∀ Rs q, M Rs q → ex np t (Rs.map some ++ List.replicate (N.length - Rs.length) none) (outF np K q)) (h : spOf np M vs H Qv E) :
    t { nx := fun _ H' => Qv .non H', rt := Qv } (L2.start N vs) H := by
  have hv : vs.length = n := by
    obtain ⟨Rs, H0, G, q, S, m, _⟩ := h
    have := S.len
    rw [List.length_map, List.length_map] at this
    rw [this, hl _ _ m]
  obtain ⟨Rs, H0, G, q0, S0, m, hq⟩ := h
  have hlen : vs.length = Rs.length := by
    have := S0.len
    rwa [List.length_map, List.length_map] at this
  have S1 : Sat (Rs.map some ++ List.replicate (N.length - Rs.length) none) (L2.start N vs) H0 H G := by
    obtain ⟨F, h1, h2, h3, h4⟩ := S0.sl
    have lt : ∀ {i : Nat} {R : Res}, (Rs.map some ++ List.replicate (N.length - Rs.length) none)[i]? = some (some R) → (Rs.map some)[i]? = some (some R) := fun {i R} h => by
      by_cases hi : i < (Rs.map some).length
      · rwa [List.getElem?_append_left hi] at h
      · rw [List.getElem?_append_right (by omega), List.getElem?_replicate] at h
        split at h <;> cases h
    unfold L2.start
    refine ⟨S0.same, by simp [hlen], S0.fr, F, fun i R hR => ?_, h2, h3, fun i a ha => ?_⟩
    · obtain ⟨v, e, r⟩ := h1 i R (lt hR)
      have hi : i < (vs.map some).length := by
        rcases Nat.lt_or_ge i (vs.map some).length with h | h
        · exact h
        · rw [List.getElem?_eq_none h] at e; cases e
      exact ⟨v, by rw [List.getElem?_append_left hi]; exact e, r⟩
    · obtain ⟨R, e⟩ := h4 i a ha
      have hi : i < (Rs.map some).length := by
        rcases Nat.lt_or_ge i (Rs.map some).length with h | h
        · exact h
        · rw [List.getElem?_eq_none h] at e; cases e
      exact ⟨R, by rw [List.getElem?_append_left hi]; exact e⟩
  have tk : (L2.start N vs).take np = (vs.take np).map some := by
    unfold L2.start
    rw [List.take_append_of_le_length (by rw [List.length_map]; omega), List.map_take]
  refine hx Rs q0 m (L2.start N vs) H0 H G _ S1 ?_ ?_ (fun _ _ _ _ z => z.elim) fun _ _ _ _ z => z.elim
  · rintro ρ' σ' H0' H' ⟨Rs', hret, q⟩ ht e S'
    obtain ⟨H0'', f', s0, hR, hd, S2⟩ := hret σ' H0' H' G .non (fun _ => False) (S'.frame fun a ha => ha.resolve_right id) ⟨.non, fun _ h => h⟩ fun _ h => h.elim
    refine hq _ _ q _ f' H0'' H' ⟨e.s0.trans s0, e.fr⟩ hR hd ?_
    rwa [ht, tk] at S2
  · rintro r ρ' σ' v f H0' H' ⟨R, Rs', hret, q⟩ ht p
    obtain ⟨H0'', f', s0, hR, hd, S2⟩ := hret σ' H0' H' G v f p.sat p.rt p.dis
    refine hq _ _ q _ f' H0'' H' ⟨p.ext.s0.trans s0, p.ext.fr⟩ hR hd ?_
    rwa [ht, tk] at S2
theorem fn_mlS {P : Program} {w : World} {mg : Str → Option Value} {base : Heap} {k : Nat} {f : Addr} {fd : FuncData} {ps N : List Str} {x qual pv : Str} {st : Stmt} (F : Fun K x qual st f fd) (S : FnScope N (ps ++ [pv]) (defScope st)) (hl : ∀ Rs q, M Rs q → Rs.length = (ps ++ [pv]).length)
    (hb : ∀ us rest : List Value, us.length = ps.length → bindArgs fd ⟨us ++ rest, []⟩ = (newTuple rest >>= fun t => pure (ps.zip us ++ [(pv, t)])))
    (body : ∀ (cdv : Value) (A : Around) (outer : List Env) (s : Shared) (H : Hp) (E : XK), RoomG k (A.deeper (envOfC qual (defScope st) s.heap.objs.size f cdv)) →
      ∃ t, PSs (cxOf CX0 P w K mg base N qual (defScope st) f cdv A outer s H E).nox (defBody st) t ∧ ∀ Rs q, M Rs q → ex 0 t (Rs.map some ++ List.replicate (N.length - Rs.length) none) (outF 0 K q)) : FnGR P w K mg base (k + 1) f (starSp ps.length (spOf 0 M)) := by
  refine fn_starG F S hb fun cdv A outer s H vs Q E hr h => ?_
  obtain ⟨t, ht, hx⟩ := body cdv A outer s H E hr
  exact ⟨t, ht, body_ml hl (Nat.zero_le _) hx h⟩
/-- an instance of the class that stands, its fields told -/
def insP (C : Addr) (m : Str) (P : Pd) : Prop := ∀ H v, P.p H v → ∃ a dx fs, v = .ref a ∧ H a = some (.ins C dx fs) ∧ fs.lookup m = none
theorem ev_methG (h : ev ta ρ fun r ρ1 => ∃ P : Pd, r = .val (pu P) ∧ insP C m P ∧ evA t ρ1 fun rs ρ2 => call0 M (r :: rs) ρ2 Q) : ev (tMethG C m (spOf 0 M) ta t) ρ Q := by
  intro σ H0 H G k S hk
  refine h σ H0 H G _ S fun r ρ1 v f H1 H1' ⟨P, er, hi, h1⟩ p => ?_
  subst er
  have hP := p.rt.1
  obtain ⟨a, dx, fs, rfl, ha, hl⟩ := hi _ _ hP
  refine ⟨a, dx, fs, rfl, p.sat.same _ _ ha, hl, ?_⟩
  refine h1 σ H1 H1' G _ (p.sat.frame fun _ => .inl) fun rs ρ2 vs f2 H2 H2' ⟨Ps, ers, mm⟩ p2 => ?_
  obtain ⟨Ps', rfl, ers2⟩ : ∃ Ps', Ps = P :: Ps' ∧ rs = Ps'.map (fun P => Rt.val (pu P)) := by
    cases Ps with
    | nil => cases ers
    | cons P' Ps' =>
      rw [List.map_cons] at ers
      injection ers with e1 e2
      injection e1 with e1
      have : P = P' := by
        have e3 : ∀ v H, P.p H v ↔ P'.p H v := fun v H => by
          have e4 := congrArg (fun R : Res => R.holds H H v (fun _ => False)) e1
          have e5 : (P.p H v ∧ ∀ a : Addr, ¬ False) = (P'.p H v ∧ ∀ a : Addr, ¬ False) := e4
          constructor
          · intro h
            exact (e5 ▸ (⟨h, fun _ h => h⟩ : P.p H v ∧ ∀ a : Addr, ¬ False)).1
          · intro h
            exact (e5 ▸ (⟨h, fun _ h => h⟩ : P'.p H v ∧ ∀ a : Addr, ¬ False)).1
        cases P
        cases P'
        congr
        funext H v
        exact propext (e3 v H)
      exact ⟨Ps', by rw [this], e2⟩
  clear ers
  subst ers2
  obtain ⟨la, ga⟩ := rts_pure p2.rt
  refine sp_call0 (Ps := P :: Ps') (p2.sat.frame (G' := G) fun _ => .inl) (by rw [List.length_cons, List.length_cons, la]) (fun i P2 e => ?_) mm fun r ρ' v f H3 H3' q p3 => hk r ρ' v f H3 H3' q ⟨(p.ext.trans p2.ext).trans p3.ext, p3.rt, p3.dis, p3.sat⟩
  cases i with
  | zero =>
    cases e
    exact ⟨_, rfl, P.mono hP p2.ext.s0⟩
  | succ i => exact ga i P2 e
/-- .. with a star -/
theorem ev_methS (h : ev ta ρ fun r ρ1 => ∃ P : Pd, r = .val (pu P) ∧ insP C m P ∧ evD K t ρ1 fun ds ρ2 => ds.length ≤ sizeLine ∧ M [pu P, dat K (.tuple ds)] fun R _ => Q (.val R) ρ2) : ev (tMethG C m (starSp 1 (spOf 0 M)) ta t) ρ Q := by
  intro σ H0 H G k S hk
  refine h σ H0 H G _ S fun r ρ1 v f H1 H1' ⟨P, er, hi, h1⟩ p => ?_
  subst er
  have hP := p.rt.1
  obtain ⟨a, dx, fs, rfl, ha, hl⟩ := hi _ _ hP
  refine ⟨a, dx, fs, rfl, p.sat.same _ _ ha, hl, ?_⟩
  refine h1 σ H1 H1' G _ (p.sat.frame fun _ => .inl) fun ds ρ2 vs H2 H2' ⟨hz, mm⟩ e2 hda S2 => ?_
  refine ⟨[.ref a], vs, rfl, rfl, by rw [hda.len]; exact hz, fun q hq => ?_⟩
  have h0 := S2.same.free hq
  have e3 : Ext G H2 H2' (upd H2 q (.tup vs)) (upd H2' q (.tup vs)) := ⟨same_upd h0, fun b hb => upd_ne fun e => (S2.fr b hb).1 (by rw [e]; exact hq)⟩
  refine sp_call0 (Ps := [P, datP K (.tuple ds)]) (S2.new hq) rfl (fun i P2 e => ?_) mm fun r ρ' v f H3 H3' q p3 => hk r ρ' v f H3 H3' q ⟨((p.ext.trans e2).trans e3).trans p3.ext, p3.rt, p3.dis, p3.sat⟩
  match i, e with
  | 0, e =>
    cases e
    exact ⟨_, rfl, P.mono (P.mono hP e2.s0) (same_upd h0)⟩
  | 1, e =>
    cases e
    exact ⟨_, rfl, .tup (.inl (.inl upd_same)) (DaAll.mono (same_upd h0) _ _ hda)⟩
theorem op_eqOwn_ {P1 P2 : Pd} (e1 : r1 = .val (pu P1)) (e2 : r2 = .val (pu P2)) (i1 : insP C "" P1 ∨ ∃ m, insP C m P1) (i2 : ∃ m, insP C m P2) (q : M [pu P1, pu P2] fun R _ => ∃ b, R = dat K (.bool b) ∧ Q (.val R) ρ) : opR (rEqOwn C (spOf 0 M)) r1 r2 ρ Q := by
  subst e1 e2
  intro σ H0 H G v1 v2 f1 f2 k S h1 h2 _ _ _ hk
  have p1 := h1.1
  have p2 := h2.1
  obtain ⟨m1, i1⟩ : ∃ m, insP C m P1 := i1.elim (fun h => ⟨_, h⟩) id
  obtain ⟨m2, i2⟩ := i2
  obtain ⟨a, dx, fs, rfl, ha, _⟩ := i1 _ _ p1
  obtain ⟨b, dy, gs, rfl, hb, _⟩ := i2 _ _ p2
  refine ⟨a, b, dx, dy, fs, gs, rfl, rfl, S.same _ _ ha, S.same _ _ hb, ?_⟩
  refine sp_call0 (Ps := [P1, P2]) (Q := fun r ρ' => ∃ b, r = .val (dat K (.bool b)) ∧ Q r ρ') (ρ := ρ) (S.frame (G' := G) fun _ => .inl) rfl (fun i P e => ?_) ?_ fun r ρ' v f H3 H3' ⟨bb, e, q⟩ p3 => ⟨?_, hk r ρ' v f H3 H3' q p3⟩
  · match i, e with
    | 0, e => cases e; exact ⟨_, rfl, p1⟩
    | 1, e => cases e; exact ⟨_, rfl, p2⟩
  · have e : (fun (R : Res) (_ : List Res) => ∃ b, Rt.val R = .val (dat K (.bool b)) ∧ Q (.val R) ρ) = fun R _ => ∃ b, R = dat K (.bool b) ∧ Q (.val R) ρ := by
      funext R _
      exact propext ⟨fun ⟨b, e, q⟩ => ⟨b, by injection e, q⟩, fun ⟨b, e, q⟩ => ⟨b, by rw [e], q⟩⟩
    show M [pu P1, pu P2] (fun R _ => ∃ b, Rt.val R = .val (dat K (.bool b)) ∧ Q (.val R) ρ)
    rw [e]
    exact q
  · subst e
    have hv := p3.rt.1
    cases hv
    exact ⟨bb, rfl⟩
theorem un_lenOwn {P1 : Pd} (e1 : r1 = .val (pu P1)) (i1 : ∃ m, insP C m P1) (q : M [pu P1] fun R _ => ∃ n : Nat, R = dat K (.int n) ∧ n < 2 ^ 60 ∧ Q (.val R) ρ) : unR (fun v H k => rLenOwn C (spOf 0 M) [v] H k) r1 ρ Q := by
  subst e1
  intro σ H0 H G v1 f1 k S h1 _ hk
  have p1 := h1.1
  obtain ⟨m1, i1⟩ := i1
  obtain ⟨a, dx, fs, rfl, ha, _⟩ := i1 _ _ p1
  refine ⟨a, dx, fs, rfl, S.same _ _ ha, ?_⟩
  refine sp_call0 (Ps := [P1]) (Q := fun r ρ' => ∃ n : Nat, r = .val (dat K (.int n)) ∧ n < 2 ^ 60 ∧ Q r ρ') (ρ := ρ) (S.frame (G' := G) fun _ => .inl) rfl (fun i P e => ?_) ?_ fun r ρ' v f H3 H3' ⟨n, e, hn, q⟩ p3 => ⟨?_, hk r ρ' v f H3 H3' q p3⟩
  · match i, e with
    | 0, e => cases e; exact ⟨_, rfl, p1⟩
  · have e : (fun (R : Res) (_ : List Res) => ∃ n : Nat, Rt.val R = .val (dat K (.int n)) ∧ n < 2 ^ 60 ∧ Q (.val R) ρ) = fun R _ => ∃ n : Nat, R = dat K (.int n) ∧ n < 2 ^ 60 ∧ Q (.val R) ρ := by
      funext R _
      exact propext ⟨fun ⟨b, e, q⟩ => ⟨b, by injection e, q⟩, fun ⟨b, e, q⟩ => ⟨b, by rw [e], q⟩⟩
    show M [pu P1] (fun R _ => ∃ n : Nat, Rt.val R = .val (dat K (.int n)) ∧ n < 2 ^ 60 ∧ Q (.val R) ρ)
    rw [e]
    exact q
  · subst e
    have hv := p3.rt.1
    cases hv
    exact ⟨n, rfl, hn⟩
end
end ML

/-! Rows as data: compared, shown. -/
namespace K24
open PySem L2 KS GL LB K24m ML
open PySem.Spec hiding Row
open PyProof.Rows hiding cnt
def optD : Option Row → PyData
  | none => .none
  | some r => rowD r
theorem eqv_row (r q : Row) : PyData.eqv (rowD r) (rowD q) = decide (r = q) := by
  unfold rowD
  rw [PyData.eqv, PyData.eqvAll, PyData.eqvAll, PyData.eqvAll, PyData.eqvAll, eqv_int, eqv_str, eqv_int, Bool.and_true, Bool.eq_iff_iff]
  simp only [Bool.and_eq_true, decide_eq_true_eq]
  rw [row_ext]
theorem eqvAll_rows : ∀ A B : List Row, PyData.eqvAll (A.map rowD) (B.map rowD) = decide (A = B)
  | [], [] => by simp [PyData.eqvAll]
  | [], b :: B => by simp [PyData.eqvAll]
  | a :: A, [] => by simp [PyData.eqvAll]
  | a :: A, b :: B => by
    rw [List.map_cons, List.map_cons, PyData.eqvAll, eqvAll_rows A B, eqv_row, Bool.eq_iff_iff]
    simp only [Bool.and_eq_true, decide_eq_true_eq]
    exact ⟨fun ⟨h1, h2⟩ => by rw [h1, h2], fun h => by injection h with h1 h2; exact ⟨h1, h2⟩⟩
theorem eqv_rowsL (A B : List Row) : PyData.eqv (.list (A.map rowD)) (.list (B.map rowD)) = decide (A = B) := by
  rw [PyData.eqv, eqvAll_rows]
theorem eqv_rowsT (A B : List Row) : PyData.eqv (.tuple (A.map rowD)) (.tuple (B.map rowD)) = decide (A = B) := by
  rw [PyData.eqv, eqvAll_rows]
theorem lay_rowsL : ∀ R : List Row, (∀ r ∈ R, Lbl r) → PyData.canLayAll0 (R.map rowD) = true
  | [], _ => by simp [PyData.canLayAll0]
  | r :: R, h => by
    rw [List.map_cons, PyData.canLayAll0, lay_row (h r List.mem_cons_self), lay_rowsL R fun x hx => h x (List.mem_cons_of_mem _ hx)]
    rfl
theorem depth_rowsL : ∀ R : List Row, PyData.depthAll (R.map rowD) ≤ 1
  | [] => by simp [PyData.depthAll]
  | r :: R => by
    have h1 := depth_row r
    have h2 := depth_rowsL R
    rw [List.map_cons, PyData.depthAll]
    omega
theorem shaped_row {r : Row} (h : Lbl r) : SeqAt.shaped (rowD r) = true := by
  unfold SeqAt.shaped
  rw [lay_row h, depth_row]
  rfl
theorem shaped_rowsL {R : List Row} (h : ∀ r ∈ R, Lbl r) : SeqAt.shaped (.list (R.map rowD)) = true := by
  unfold SeqAt.shaped
  have h2 := depth_rowsL R
  rw [PyData.canLay0, PyData.depth, lay_rowsL R h, Bool.true_and, decide_eq_true_eq]
  omega
theorem shaped_rowsT {R : List Row} (h : ∀ r ∈ R, Lbl r) : SeqAt.shaped (.tuple (R.map rowD)) = true := by
  unfold SeqAt.shaped
  have h2 := depth_rowsL R
  rw [PyData.canLay0, PyData.depth, lay_rowsL R h, Bool.true_and, decide_eq_true_eq]
  omega
end K24

/-! A row among rows. -/
namespace K24
open PySem L2 KS GL LB K24m ML
open PySem.Spec hiding Row
open PyProof.Rows hiding cnt
/-- a row among rows -/
def rInRow (K : PySem.W.Frag) (neg : Bool) : R2 := fun x y H Q => ∃ (r : Row) (R : List Row), Dp K H x (rowD r) ∧ (Dp K H y (.list (R.map rowD)) ∨ Dp K H y (.tuple (R.map rowD))) ∧ Lbl r ∧ (∀ z ∈ R, Lbl z) ∧ Q (.bl (if neg then !decide (r ∈ R) else decide (r ∈ R))) H
theorem any_rows (r : Row) : ∀ R : List Row, ((R.map rowD).any fun y => PyData.eqv y (rowD r)) = decide (r ∈ R)
  | [] => rfl
  | x :: R => by
    rw [List.map_cons, List.any_cons, any_rows r R, eqv_row, Bool.eq_iff_iff, Bool.or_eq_true, decide_eq_true_eq, decide_eq_true_eq, decide_eq_true_eq, List.mem_cons]
    exact or_congr ⟨Eq.symm, Eq.symm⟩ Iff.rfl
theorem op_inRow {X : Cx} (hu : X.A.units + 64 < cLine) : OpR X (compareOp .In) (rInRow X.K false) := by
  intro pins s σ H x y v u Q I rx ry h
  obtain ⟨r, R, hd, he, lr, lR, q⟩ := h
  obtain ⟨as, r1⟩ := Dp.reads I (rowD r) x v hd rx
  have hun : X.A.units + 1 + min (PyData.depthAll (R.map rowD)) (rowD r).depth < cLine := by
    have := depth_row r
    omega
  have q' : EP X pins σ Q (.bool ((R.map rowD).any fun y => PyData.eqv y (rowD r))) s := by
    rw [any_rows]
    exact ⟨.bl _, H, I, rfl, q⟩
  rcases he with he | he
  · obtain ⟨bs, r2⟩ := Dp.reads I _ y u he ry
    exact SeqAt.in_list_reads r2 r1 (lay_rowsL R lR) (lay_row lr) hun q'
  · obtain ⟨bs, r2⟩ := Dp.reads I _ y u he ry
    exact SeqAt.in_tuple_reads r2 r1 (lay_rowsL R lR) (lay_row lr) hun q'
theorem op_ninRow {X : Cx} (hu : X.A.units + 64 < cLine) : OpR X (compareOp .NotIn) (rInRow X.K true) := by
  intro pins s σ H x y v u Q I rx ry h
  obtain ⟨r, R, hd, he, lr, lR, q⟩ := h
  obtain ⟨as, r1⟩ := Dp.reads I (rowD r) x v hd rx
  have hun : X.A.units + 1 + min (PyData.depthAll (R.map rowD)) (rowD r).depth < cLine := by
    have := depth_row r
    omega
  have q' : EP X pins σ Q (.bool (!(R.map rowD).any fun y => PyData.eqv y (rowD r))) s := by
    rw [any_rows]
    exact ⟨.bl _, H, I, rfl, q⟩
  rcases he with he | he
  · obtain ⟨bs, r2⟩ := Dp.reads I _ y u he ry
    exact SeqAt.notIn_list_reads r2 r1 (lay_rowsL R lR) (lay_row lr) hun q'
  · obtain ⟨bs, r2⟩ := Dp.reads I _ y u he ry
    exact SeqAt.notIn_tuple_reads r2 r1 (lay_rowsL R lR) (lay_row lr) hun q'
theorem op_inRows {K : PySem.W.Frag} {ρ : MS} {Q : Rt → MS → Prop} {r1 r2 : Rt} {neg : Bool} {x : Row} {d : PyData} (R : List Row) (h1 : rd K ρ r1 (rowD x)) (h2 : rd K ρ r2 d) (hd : seqD d R) (l1 : Lbl x) (l2 : ∀ z ∈ R, Lbl z) (q : Q (.val (dat K (.bool (if neg then !decide (x ∈ R) else decide (x ∈ R))))) ρ) : opR (rInRow K neg) r1 r2 ρ Q :=
  op_sc h1 h2 (fun H v1 v2 k e1 e2 hk => ⟨x, R, Da.dp _ _ e1, hd.imp (fun e => by rw [← e]; exact Da.dp _ _ e2) (fun e => by rw [← e]; exact Da.dp _ _ e2), l1, l2, hk _ (.bl _)⟩) q
end K24

/-! Chart's methods: begun_at, without, ==, len. -/
namespace K24
open PySem L2 KS GL LB K24m ML
open CH (outs sucs ChC ChartAt cf cf_arrows cf_states cf_no ChartOk spInit arrowB)
open PySem.Spec hiding Row
open PyProof.Rows hiding cnt
/-- what isinstance asks of the class -/
structure ChI (K : PySem.W.Frag) (C : Addr) : Prop where
  ha : PySem.W.findIn K (.ref C) "__class__" = some (some (.builtin "object.__class__"))
  hn : PySem.W.specialIn K (.builtin "object.__class__") "__get__" = some (some (.builtin "getset_descriptor.__get__"))
  htk : PySem.W.takesIn K (.builtin "object.__class__") = some true
  hm : PySem.W.mroIn K C (.type "object") = some true
theorem chart_ins {K : PySem.W.Frag} {C : Addr} {n : Nat} {R : List Row} {m : Str} (h1 : ¬ m = "states") (h2 : ¬ m = "arrows") (h3 : ¬ m = "open_steps") : insP C m (chartP K C n R) := fun H v ⟨p, dx, a, o, rs, e, g, _⟩ => ⟨p, dx, _, e, g, cf_no n a o h1 h2 h3⟩
theorem ev_isi_chart {K : PySem.W.Frag} {mg : Str → Option Value} {ρ : MS} {Q : Rt → MS → Prop} {i : Nat} {n : Nat} {R : List Row} {C : Addr} (CC : ChC K mg C) (CI : ChI K C) (h : ρ[i]? = some (some (pu (chartP K C n R)))) (q : Q (.val (dat K (.bool true))) ρ) : ev (tCB (rIsi K) (tCons (tVar i) (tCons (tC (.ref C)) tNil))) ρ Q := by
  intro σ H0 H G k S hk
  obtain ⟨v, f, e, ⟨hv, _⟩, _⟩ := S.get h
  obtain ⟨p, dx, a, o, rs, rfl, g, _⟩ := hv
  refine ⟨.ref p, e, .ref p, .ref C, .ref C, .ref C, true, rfl, .own C, .base (.ins (S.same _ _ g) CC.cl CI.ha CI.hn CI.htk CI.hm), ?_, hk _ _ _ _ _ _ q (post_pure S (.bl true))⟩
  unfold PySem.W.kitOne
  simp
section
variable {P : Program} {w : World} {K : PySem.W.Frag} {mg : Str → Option Value} {base : Heap}
set_option hygiene false
local macro_rules | `(tactic| k_dat 0 "rd") => `(tactic| first | with_reducible apply rd.val | with_reducible apply rd.own | (apply rd.slot; apply Eq.refl) | (apply rd.slotL; apply Eq.refl))
local macro_rules | `(tactic| k_dat 0 "rdS") => `(tactic| first | with_reducible (apply rdS.l; apply rd.val) | with_reducible (apply rdS.t; apply rd.val) | with_reducible (apply rdS.l; apply rd.own) | (apply rdS.l; apply rd.slotL; apply Eq.refl) | (apply rdS.l; apply rd.slot; apply Eq.refl) | (apply rdS.t; apply rd.slot; apply Eq.refl))
local macro_rules | `(tactic| k_dat 0 "rdD") => `(tactic| first | with_reducible apply rdD.val | with_reducible apply rdD.own | (apply rdD.slot; apply Eq.refl) | (apply rdD.slotP; apply Eq.refl))
local macro_rules | `(tactic| k_dat 0 "sc") => `(tactic| first | apply Sc.int | apply Sc.bl | apply Sc.str | apply Sc.non)
local macro_rules | `(tactic| k_dat 0 "asD") => `(tactic| first | with_reducible apply asD.val | with_reducible apply asD.own | (apply asD.slot; apply Eq.refl))
local macro_rules | `(tactic| k_dat 0 "asX") => `(tactic| first | with_reducible apply asX.pure | with_reducible apply asX.own | (apply asX.slot; apply Eq.refl) | with_reducible apply asX.keep)
local macro_rules | `(tactic| k_dat 0 "nf") => `(tactic| first | (conv => arg 3; dsimp only [wipeM, List.set, List.map]) | skip)
local macro_rules | `(tactic| k_dat 0 "eq") => `(tactic| first | (dsimp only [wipeM, List.set, List.map]; done) | (dsimp only [wipeM, List.set, List.map]; apply Eq.refl) | apply Eq.refl)
local macro_rules | `(tactic| k_dat 0 "st") => `(tactic| first
  | ((with_reducible apply x_seq); k_dat 0 "nf") | ((with_reducible apply x_parT2); (case hi => omega); (case hj => omega)) | ((with_reducible apply x_asg2); (case hi => omega); (case hj => omega)) | ((with_reducible apply x_asg3); (case hi => omega); (case hj => omega); (case hl => omega)) | ((with_reducible apply x_par4); (case hi => omega); (case hj => omega); (case hk => omega); (case hl => omega)) | ((with_reducible apply x_par2); (case hij => omega); (case hi => omega); (case hj => omega)) | with_reducible first | (apply x_asg; case hl => decide) | apply x_drop | apply x_ret | apply x_next | apply x_break | apply x_cont
  | apply x_dput (K := K) | apply x_putN (K := K) | apply x_retN)
local macro_rules | `(tactic| k_dat 0 "ex") => `(tactic| with_reducible first
  | apply ev_int (K := K) | apply ev_str (K := K) | apply ev_bl (K := K) | apply ev_non (K := K)
  | apply ev_tup (K := K) | apply ev_lst (K := K) | apply ev_op | apply ev_un | apply ev_sset_rows (K := K) | apply ev_sset_ints (K := K) | apply ev_cb1 | apply ev_cb2 | apply ev_andV (K := K) | apply ev_orV (K := K) | apply ev_notV (K := K) | apply ev_if
  | apply ev_sl | apply evO_none | apply evO_some (K := K) | apply ev_rev | apply ev_bm1 | apply ev_bm0 | apply ev_dnew (K := K) | apply ev_disp (K := K) | apply ev_dget1 (K := K) | apply ev_dget2 (K := K) | apply ev_dinI (K := K) | apply ev_dninI (K := K) | apply ev_chainI (K := K)
  | apply ev_call | apply ev_call1
  | apply evD_nil | apply evD_cons | apply evA_nil | apply evA_x (K := K) | apply evPs_nil | apply evPs_cons
  | apply ev_dispN (K := K) | apply evPsN_nil | apply evPsN_cons | apply ev_ninN (K := K) | apply ev_ninR (K := K) | apply ev_dcR (K := K)
  | apply evT_val (K := K) | apply evT_B (K := K) | apply evT_and | apply evT_or | apply evT_not | apply evT_yes)
local macro_rules | `(tactic| k_dat 0 "vr") => `(tactic| first
  | ((with_reducible apply ev_var); (case h => apply Eq.refl)) | ((with_reducible apply ev_at); (case h => apply Eq.refl))
  | ((with_reducible apply x_augI); (case hi => decide); (case h0 => apply Eq.refl)))
local macro_rules | `(tactic| k_dat 0 "tg") => `(tactic| first
  | (with_reducible apply tg_name) | ((with_reducible apply tg_move); (case h => apply Eq.refl)) | ((with_reducible apply tg_tup); (case hn => rfl)) | (with_reducible apply tg_row) | (with_reducible apply tgs_nil) | (with_reducible apply tgs_consN))
local macro_rules | `(tactic| k_dat 0 "len") => `(tactic| ((first | apply lt_line | apply le_line); (try simp only [List.length_map, List.length_append, List.length_cons, List.length_nil, List.length_range]); omega))
local macro_rules | `(tactic| k_dat 0 "op") => `(tactic| first
  | ((with_reducible apply op_i0 (K := K)); (case h1 => k_dat 0 "rd"); (case h2 => k_dat 0 "rd"); (case hd => k_dat 0 "sc"))
  | ((with_reducible apply op_eqI (K := K)); (case h1 => k_dat 0 "rd"); (case h2 => k_dat 0 "rd")) | ((with_reducible apply op_neI (K := K)); (case h1 => k_dat 0 "rd"); (case h2 => k_dat 0 "rd"))
  | ((with_reducible apply op_eqS (K := K)); (case h1 => k_dat 0 "rd"); (case h2 => k_dat 0 "rd")) | ((with_reducible apply op_neS (K := K)); (case h1 => k_dat 0 "rd"); (case h2 => k_dat 0 "rd"))
  | ((with_reducible apply op_ixR0 (K := K)); (case h1 => k_dat 0 "rd"); (case h2 => k_dat 0 "rd")) | ((with_reducible apply op_ixR1 (K := K)); (case h1 => k_dat 0 "rd"); (case h2 => k_dat 0 "rd")) | ((with_reducible apply op_ixR2 (K := K)); (case h1 => k_dat 0 "rd"); (case h2 => k_dat 0 "rd"))
  | ((with_reducible apply un_i (K := K)); (case h1 => k_dat 0 "rd"); (case hd => k_dat 0 "sc"))
  | ((with_reducible apply un_len (K := K)); (case h => k_dat 0 "rdS")) | ((with_reducible apply un_list (K := K)); (case h => k_dat 0 "rdS")) | ((with_reducible apply un_tuple (K := K)); (case h => first | (apply rdS.l; k_dat 0 "rd") | (apply rdS.t; k_dat 0 "rd")))
  | ((with_reducible apply un_int (K := K)); (case h => k_dat 0 "rd")) | ((with_reducible apply un_lenD (K := K)); (case h => k_dat 0 "rdD")) | ((with_reducible apply un_listK (K := K)); (case h => k_dat 0 "rdD"))
  | ((with_reducible apply op_append (K := K)); (case hd => k_dat 0 "asD"); (case e => apply Eq.refl); (case hl => k_dat 0 "len"))
  | ((with_reducible apply op_cat_ (K := K)); (case h1 => k_dat 0 "rd"); (case h2 => k_dat 0 "rd"); (case hl => k_dat 0 "len"))
  | ((with_reducible apply op_max2 (K := K)); (case h1 => k_dat 0 "rd"); (case h2 => k_dat 0 "rd")) | ((with_reducible apply op_min2 (K := K)); (case h1 => k_dat 0 "rd"); (case h2 => k_dat 0 "rd"))
  | ((with_reducible apply sl_list_ (K := K)); (case h1 => k_dat 0 "rd")) | ((with_reducible apply sl_tup_ (K := K)); (case h1 => k_dat 0 "rd")))
local macro_rules | `(tactic| k_dat 0 "sp") => `(tactic| first
  | ((with_reducible (apply Exists.intro; apply And.intro)); (case left => with_reducible apply Eq.refl))
  | ((with_reducible (apply Exists.intro; apply And.intro)); (case left => first | k_dat 0 "rd" | k_dat 0 "rdD"))
  | ((with_reducible apply And.intro); (case left => (with_reducible apply Exists.intro); k_dat 0 "rdD"))
  | ((with_reducible (apply Exists.intro; apply Exists.intro; apply And.intro)); (case left => first | k_dat 0 "asD" | k_dat 0 "asX"))
  | ((with_reducible apply And.intro); (case left => apply len_le; apply Eq.refl))
  | ((with_reducible (apply Exists.intro (Sum.inl _); apply And.intro)); (case left => apply Eq.refl)) | ((with_reducible (apply Exists.intro (Sum.inr _); apply And.intro)); (case left => apply Eq.refl)))
local macro_rules | `(tactic| k_dat 0 "wk") => `(tactic| with_reducible first | apply x_forD (K := K) | apply x_lc (K := K) | apply wkD_list | apply wkD_tup | apply wkD_seq | apply wkD_rng1 | apply wkD_rng2 | apply wkD_str)
local macro_rules | `(tactic| k_dat 0 "ml1") => `(tactic| first | k_dat 0 "st" | k_dat 0 "ex" | k_dat 0 "wk" | k_dat 0 "vr" | k_dat 0 "tg" | k_dat 0 "op" | k_dat 0 "sp")
local macro_rules | `(tactic| k_dat 0 "ml") => `(tactic| repeat k_dat 0 "ml1")
abbrev S_chart_begun_at (K : PySem.W.Frag) (C : Addr) : Sp := spOf 0 (begM K C)
def begunAtM (K : PySem.W.Frag) (C : Addr) : MSp := fun Rs q => ∃ (n : Nat) (R : List Row) (st : Int), Rs = [pu (chartP K C n R), dat K (.int st)] ∧ R.length ≤ 200 ∧ R.Nodup ∧ 0 ≤ st ∧ (∀ r ∈ R, CH.labelB r.2.1 = true ∧ 0 ≤ r.1 ∧ -1 ≤ r.2.2) ∧
  ∀ near R', Near R st near → BegR R st near R' → q (pu (chartP K C near.length R')) []
theorem scMBegun : FnScope ["self", "state"] ["self", "state"] (defScope CH.sMBegunAt) := ⟨rfl, rfl, rfl, by decide +kernel, rfl, by decide +kernel, by decide +kernel⟩
theorem ok_begunAt {f C : Addr} {fd : FuncData} (G : Fun K "begun_at" "Chart.begun_at" CH.sMBegunAt f fd) (CC : ChC K mg C) (hchart_begun_at : HasM P w K mg base "chart_begun_at" 6 ["start", "arrows"] (S_chart_begun_at K C)) : FnG P w K mg base CX0 7 f fd ["self", "state"] (spOf 0 (begunAtM K C)) := by
  refine fn_ml G scMBegun (fun Rs q ⟨_, _, _, h, _⟩ => by rw [h]; rfl) (by decide) fun cdv A outer s H E hrG => ?_
  refine ⟨_, (pss_one (ps_ret (pe_hg hchart_begun_at (hrG.mono (by decide)) rfl (pa_cons (pv 1) (pa_cons (pe_fld (pv 0) rfl) pa_nil))))), ?_⟩
  rintro Rs q ⟨n, R, st, rfl, hl, hnd, hst, hR, hq⟩
  rw [outF_eq]
  try dsimp only [cxOf, Cx.nox, Cx.wish]
  show ML.ex 0 _ [some (pu (chartP K C n R)), some (dat K (.int st))] _
  k_dat 0 "ml"
  refine ev_arrows CC rfl ?_
  k_dat 0 "ml"
  refine c_zero [_, _] ⟨st, _, R, rfl, .inr rfl, hl, hnd, hst, hR, fun near R' N B => ?_⟩
  exact ⟨_, [], ret_val rfl, hq near R' N B⟩
def eqM (K : PySem.W.Frag) (C : Addr) : MSp := fun Rs q => ∃ (n n' : Nat) (R R' : List Row), Rs = [pu (chartP K C n R), pu (chartP K C n' R')] ∧ (∀ r ∈ R, Lbl r) ∧ (∀ r ∈ R', Lbl r) ∧ q (dat K (.bool (decide (n = n' ∧ R = R')))) []
theorem scMEq : FnScope ["self", "other"] ["self", "other"] (defScope CH.sMEq) := ⟨rfl, rfl, rfl, by decide +kernel, rfl, by decide +kernel, by decide +kernel⟩
theorem ok_eq {f C : Addr} {fd : FuncData} (G : Fun K "__eq__" "Chart.__eq__" CH.sMEq f fd) (T : CH.Blt2 mg) (CC : ChC K mg C) (CI : ChI K C) : FnG P w K mg base CX0 1 f fd ["self", "other"] (spOf 0 (eqM K C)) := by
  refine fn_ml G scMEq (fun Rs q ⟨_, _, _, _, h, _⟩ => by rw [h]; rfl) (by decide) fun cdv A outer s H E hrG => ?_
  have hr := hrG.room
  have hu64 := hr.units
  refine ⟨_, (pss_one (ps_ret (pe_and (pe_callB call_isi (by rfl) T.b_isinstance (by decide +kernel) (pa_cons (pv 1) (pa_cons (pe_glob (v := .ref C) rfl CC.mgC rfl) pa_nil))) (pe_and (pe_cmpR op_eq (pe_fld (pv 0) rfl) (pe_fld (pv 1) rfl) (nomark _)) (pe_one (pe_cmpR (op_eqD hu64) (pe_fld (pv 0) rfl) (pe_fld (pv 1) rfl) (nomark _))))))), ?_⟩
  rintro Rs q ⟨n, n', R, R', rfl, hR, hR', hq⟩
  rw [outF_eq]
  try dsimp only [cxOf, Cx.nox, Cx.wish]
  show ML.ex 0 _ [some (pu (chartP K C n R)), some (pu (chartP K C n' R'))] _
  apply x_ret
  apply ev_andV (K := K)
  refine ev_isi_chart CC CI rfl ?_
  k_dat 0 "ml"
  refine ⟨fun _ => ?_, fun h => Bool.noConfusion h⟩
  k_dat 0 "ml"
  refine ev_states CC rfl ?_
  k_dat 0 "ml"
  refine ev_states CC rfl ?_
  k_dat 0 "ml"
  refine ⟨fun h => ?_, fun h => ?_⟩
  · have e : n = n' := by
      have := of_decide_eq_true h
      omega
    k_dat 0 "ml"
    refine ev_arrows CC rfl ?_
    k_dat 0 "ml"
    refine ev_arrows CC rfl ?_
    refine op_deq rd.val rd.val (shaped_rowsT hR) (shaped_rowsT hR') ?_
    rw [eqv_rowsT]
    have e2 : decide (n = n' ∧ R = R') = decide (R = R') := by simp [e]
    rw [e2] at hq
    exact ⟨_, [], ret_val rfl, hq⟩
  · have e : n ≠ n' := fun z => by simp [z] at h
    have e2 : decide (n = n' ∧ R = R') = false := by simp [e]
    rw [e2] at hq
    exact ⟨_, [], ret_val rfl, hq⟩
def lenM (K : PySem.W.Frag) (C : Addr) : MSp := fun Rs q => ∃ (n : Nat) (R : List Row), Rs = [pu (chartP K C n R)] ∧ q (dat K (.int R.length)) []
theorem scMLen : FnScope ["self"] ["self"] (defScope CH.sMLen) := ⟨rfl, rfl, rfl, by decide +kernel, rfl, by decide +kernel, by decide +kernel⟩
theorem ok_len {f C : Addr} {fd : FuncData} (G : Fun K "__len__" "Chart.__len__" CH.sMLen f fd) (T : CH.Blt2 mg) (CC : ChC K mg C) : FnG P w K mg base CX0 1 f fd ["self"] (spOf 0 (lenM K C)) := by
  refine fn_ml G scMLen (fun Rs q ⟨_, _, h, _⟩ => by rw [h]; rfl) (by decide) fun cdv A outer s H E hrG => ?_
  refine ⟨_, (pss_one (ps_ret (pe_callB call_lenQ (by rfl) T.b_len PySem.boot_len (pa_cons (pe_fld (pv 0) rfl) pa_nil)))), ?_⟩
  rintro Rs q ⟨n, R, rfl, hq⟩
  rw [outF_eq]
  try dsimp only [cxOf, Cx.nox, Cx.wish]
  show ML.ex 0 _ [some (pu (chartP K C n R))] _
  k_dat 0 "ml"
  refine ev_arrows CC rfl ?_
  k_dat 0 "ml"
  rw [List.length_map]
  exact ⟨_, [], ret_val rfl, hq⟩
end
end K24

/-! Plain Lean: the text of a chart; what its lines and words are. -/
namespace K24
open PySem L2 KS GL LB
open PySem.Spec hiding Row
open TL (tl numL)
def numS (i : Int) : Str := (toString i)
def numN (n : Nat) : Str := numS ((n : Nat) : Int)
theorem tl_numN (n : Nat) : tl (numN n) = numL n := TL.tl_num n
theorem numN_inj {m n : Nat} (h : numN m = numN n) : m = n := TL.numL_inj (by rw [← tl_numN, ← tl_numN, h])
theorem numS_nat {i : Int} (h : 0 ≤ i) : numS i = numN i.toNat := by
  unfold numN
  rw [Int.toNat_of_nonneg h]
theorem numS_inj {i j : Int} (hi : 0 ≤ i) (hj : 0 ≤ j) (h : numS i = numS j) : i = j := by
  rw [numS_nat hi, numS_nat hj] at h
  have := numN_inj h
  omega
theorem numN_len {n : Nat} (h : n < 10 ^ 6) : (numN n).length ≤ 6 := by
  rw [TL.len_tl, tl_numN]
  exact TL.numL_len (by decide) h
def endS : Str := "end"
def stS : Str := "states"
def spS : Str := " "
def nlS : Str := "\n"
theorem tl_endS : tl endS = [101, 110, 100] := by decide +kernel
theorem tl_stS : tl stS = [115, 116, 97, 116, 101, 115] := by decide +kernel
theorem tl_spS : tl spS = [32] := by decide +kernel
theorem tl_nlS : tl nlS = [10] := by decide +kernel
def tgtS (t : Int) : Str := if t < 0 then endS else numS t
def wordsS (r : Row) : List Str := [numS r.1, r.2.1, tgtS r.2.2]
def lineS (r : Row) : Str := Txt.join spS (wordsS r)
def headS (n : Nat) : Str := stS ++ spS ++ numN n
def textS (n : Nat) (R : List Row) : Str := Txt.join nlS (headS n :: R.map lineS)
/-- rows that are written -/
def WOk (r : Row) : Prop := (0 ≤ r.1 ∧ r.1 < 10 ^ 6) ∧ CH.labelB r.2.1 = true ∧ (-1 ≤ r.2.2 ∧ r.2.2 < 10 ^ 6)
theorem label_sign {z : Str} (h : CH.labelB z = true) {c : Nat} (hc : c ∈ tl z) : 97 ≤ c ∧ c ≤ 122 := by
  unfold CH.labelB at h
  simp only [Bool.and_eq_true, List.all_eq_true, decide_eq_true_eq] at h
  have := h.2 c hc
  have hl : (CH.lets).cps.toList = [97, 98, 99, 100, 101, 102, 103, 104, 105, 106, 107, 108, 109, 110, 111, 112, 113, 114, 115, 116, 117, 118, 119, 120, 121, 122] := by decide +kernel
  rw [hl] at this
  simp only [List.mem_cons, List.not_mem_nil, or_false] at this
  omega
theorem label_len {z : Str} (h : CH.labelB z = true) : 1 ≤ z.length ∧ z.length ≤ 8 := by
  unfold CH.labelB at h
  simp only [Bool.and_eq_true, decide_eq_true_eq] at h
  exact ⟨h.1.1.1, h.1.1.2⟩
theorem num_sign {n c : Nat} (h : c ∈ numL n) : 48 ≤ c ∧ c ≤ 57 := by
  refine Classical.byContradiction fun no => TL.numL_free (n := n) (s := c) (by omega) h
section
variable {r : Row}
theorem word_free (h : WOk r) : ∀ p ∈ wordsS r, 32 ∉ tl p ∧ 10 ∉ tl p := by
  obtain ⟨⟨h1, _⟩, h2, h3, _⟩ := h
  intro p hp
  unfold wordsS at hp
  simp only [List.mem_cons, List.not_mem_nil, or_false] at hp
  rcases hp with rfl | rfl | rfl
  · rw [numS_nat h1, tl_numN]
    exact ⟨fun z => by have := num_sign z; omega, fun z => by have := num_sign z; omega⟩
  · exact ⟨fun z => by have := label_sign h2 z; omega, fun z => by have := label_sign h2 z; omega⟩
  · unfold tgtS
    split
    · rw [tl_endS]
      decide
    · rw [numS_nat (by omega), tl_numN]
      exact ⟨fun z => by have := num_sign z; omega, fun z => by have := num_sign z; omega⟩
theorem line_split (h : WOk r) : Txt.split (lineS r) spS = wordsS r :=
  TL.split_join tl_spS (by decide +kernel) (List.cons_ne_nil _ _) fun p hp => (word_free h p hp).1
theorem tl_line (r : Row) : tl (lineS r) = tl (numS r.1) ++ 32 :: (tl r.2.1 ++ 32 :: tl (tgtS r.2.2)) := by
  unfold lineS
  rw [TL.join_eq, TL.tl_join, tl_spS]
  rfl
theorem line_free (h : WOk r) : 10 ∉ tl (lineS r) := by
  have w := word_free h
  rw [tl_line]
  have a := (w (numS r.1) (by simp [wordsS])).2
  have b := (w r.2.1 (by simp [wordsS])).2
  have c := (w (tgtS r.2.2) (by simp [wordsS])).2
  simp [a, b, c]
theorem tgt_len (h : WOk r) : (tgtS r.2.2).length ≤ 6 := by
  obtain ⟨_, _, h3, h4⟩ := h
  unfold tgtS
  split
  · rw [TL.len_tl, tl_endS]
    decide
  · rw [numS_nat (by omega)]
    exact numN_len (by omega)
theorem src_len (h : WOk r) : (numS r.1).length ≤ 6 := by
  rw [numS_nat h.1.1]
  exact numN_len (by have := h.1.1; have := h.1.2; omega)
theorem line_len (h : WOk r) : (lineS r).length ≤ 22 := by
  have a := src_len h
  have b := (label_len h.2.1).2
  have c := tgt_len h
  rw [TL.len_tl] at a b c ⊢
  rw [tl_line]
  simp only [List.length_append, List.length_cons]
  omega
theorem words_inj {r r' : Row} (h : WOk r) (h' : WOk r') (e : wordsS r = wordsS r') : r = r' := by
  obtain ⟨a, l, t⟩ := r
  obtain ⟨a', l', t'⟩ := r'
  unfold wordsS at e
  simp only [List.cons.injEq, and_true] at e
  obtain ⟨e1, e2, e3⟩ := e
  obtain ⟨⟨h1, _⟩, _, h3, _⟩ := h
  obtain ⟨⟨h1', _⟩, _, h3', _⟩ := h'
  dsimp only at *
  have ea := numS_inj h1 h1' e1
  have hd : ∀ {x : Int}, 0 ≤ x → endS ≠ numS x := fun {x} hx z => by
    have := congrArg tl z
    rw [numS_nat hx, tl_numN, tl_endS] at this
    have := num_sign (n := x.toNat) (c := 101) (by rw [← this]; simp)
    omega
  have et : t = t' := by
    unfold tgtS at e3
    split at e3 <;> split at e3
    · omega
    · exact absurd e3 (hd (by omega))
    · exact absurd e3.symm (hd (by omega))
    · exact numS_inj (by omega) (by omega) e3
  rw [ea, e2, et]
end
theorem tl_head (n : Nat) : tl (headS n) = [115, 116, 97, 116, 101, 115] ++ 32 :: numL n := by
  unfold headS
  rw [TL.tl_append, TL.tl_append, tl_stS, tl_spS, tl_numN]
  rfl
theorem head_join (n : Nat) : headS n = Txt.join spS [stS, numN n] := by
  refine TL.ext_tl ?_
  rw [tl_head, TL.join_eq, TL.tl_join, tl_spS]
  show _ = tl stS ++ ([32] ++ tl (numN n))
  rw [tl_stS, tl_numN]
  rfl
theorem head_split (n : Nat) : Txt.split (headS n) spS = [stS, numN n] := by
  rw [head_join]
  refine TL.split_join tl_spS (by decide +kernel) (List.cons_ne_nil _ _) fun p hp => ?_
  simp only [List.mem_cons, List.not_mem_nil, or_false] at hp
  rcases hp with rfl | rfl
  · rw [tl_stS]
    decide
  · rw [tl_numN]
    exact fun z => by have := num_sign z; omega
theorem head_free (n : Nat) : 10 ∉ tl (headS n) := by
  rw [tl_head]
  intro z
  rcases List.mem_append.mp z with z | z
  · revert z
    decide
  · rcases List.mem_cons.mp z with z | z
    · omega
    · have := num_sign z
      omega
theorem head_len {n : Nat} (h : n < 10 ^ 6) : (headS n).length ≤ 13 := by
  have := numN_len h
  rw [TL.len_tl] at this ⊢
  rw [tl_numN] at this
  rw [tl_head]
  simp only [List.length_append, List.length_cons, List.length_nil]
  omega
section
variable {n n' : Nat} {R R' : List Row}
theorem text_split (h : ∀ r ∈ R, WOk r) : Txt.split (textS n R) nlS = headS n :: R.map lineS :=
  TL.split_join tl_nlS (by decide +kernel) (List.cons_ne_nil _ _) fun p hp => by
    rcases List.mem_cons.mp hp with rfl | hp
    · exact head_free n
    · obtain ⟨r, hr, rfl⟩ := List.mem_map.mp hp
      exact line_free (h r hr)
theorem lines_inj : ∀ {R R' : List Row}, (∀ r ∈ R, WOk r) → (∀ r ∈ R', WOk r) → R.map lineS = R'.map lineS → R = R'
  | [], [], _, _, _ => rfl
  | [], r :: R', _, _, h => by simp at h
  | r :: R, [], _, _, h => by simp at h
  | r :: R, r' :: R', h, h', e => by
    rw [List.map_cons, List.map_cons] at e
    injection e with e1 e2
    have w := h r List.mem_cons_self
    have w' := h' r' List.mem_cons_self
    have := line_split w
    rw [e1, line_split w'] at this
    rw [words_inj w w' this.symm, lines_inj (fun x hx => h x (List.mem_cons_of_mem _ hx)) (fun x hx => h' x (List.mem_cons_of_mem _ hx)) e2]
theorem text_inj (h : ∀ r ∈ R, WOk r) (h' : ∀ r ∈ R', WOk r) : textS n R = textS n' R' ↔ n = n' ∧ R = R' := by
  constructor
  · intro e
    have s := text_split (n := n) h
    rw [e, text_split h'] at s
    injection s with s1 s2
    have := head_split n'
    rw [s1, head_split n] at this
    simp only [List.cons.injEq, and_true, true_and] at this
    exact ⟨numN_inj this, (lines_inj h' h s2).symm⟩
  · rintro ⟨rfl, rfl⟩
    rfl
theorem join_len (sep : Str) : ∀ ys : List Str, (Txt.join sep ys).length ≤ (ys.map (·.length)).sum + ys.length * sep.length := fun ys => by
  rw [TL.join_eq]
  exact StrLaws.join_length_le sep ys
theorem sum_le {ys : List Str} {k : Nat} (h : ∀ y ∈ ys, y.length ≤ k) : (ys.map (·.length)).sum ≤ ys.length * k := by
  induction ys with
  | nil => simp
  | cons y ys ih =>
    rw [List.map_cons, List.sum_cons, List.length_cons, Nat.add_mul, Nat.one_mul]
    have := h y List.mem_cons_self
    have := ih fun z hz => h z (List.mem_cons_of_mem _ hz)
    omega
theorem lines_sum (hn : n < 10 ^ 6) (h : ∀ r ∈ R, WOk r) : ((headS n :: R.map lineS).map (·.length)).sum + (headS n :: R.map lineS).length * nlS.length ≤ (R.length + 1) * 23 := by
  have := sum_le (ys := headS n :: R.map lineS) (k := 22) fun y hy => by
    rcases List.mem_cons.mp hy with rfl | hy
    · have := head_len hn
      omega
    · obtain ⟨r, hr, rfl⟩ := List.mem_map.mp hy
      exact line_len (h r hr)
  have hl : nlS.length = 1 := by rw [TL.len_tl, tl_nlS]; rfl
  rw [List.length_cons, List.length_map] at this ⊢
  rw [hl]
  omega
theorem text_len (hn : n < 10 ^ 6) (h : ∀ r ∈ R, WOk r) : (textS n R).length ≤ (R.length + 1) * 23 := Nat.le_trans (join_len _ _) (lines_sum hn h)
end
end K24

/-! Texts in the mirror: join, split, str, int of a text, f"..", str(x) by an own __str__. -/
namespace LB
open PySem PySem.Spec PyProof.Rows L2 KS GL ML
def rStrOwn (C : Addr) (sp : Sp) : List V → Hp → VK → Prop := fun xs H Q => ∃ a dx fs, xs = [V.ref a] ∧ H a = some (.ins C dx fs) ∧ sp [.ref a] H (fun v H' => (∃ z : Str, v = .str z) ∧ Q v H') E0
theorem call_strOwn {X : Cx} {k : Nat} {C f : Addr} {sp : Sp} (F : FnGR X.prog X.w X.K X.mg X.base k f sp) (hr : RoomG (k + 2) X.A) (hs : PySem.W.findIn X.K (.ref C) "__str__" = some (some (.ref f))) (hf : PySem.W.isFn X.K (.ref f) = true) : CallR X (.type "str") (rStrOwn C sp) := by
  intro pins s σ H xs us Q I r h
  obtain ⟨a, dx, fs, rfl, ha, hsp⟩ := h
  obtain ⟨⟩ | ⟨r1, r2⟩ := r
  cases r2
  cases r1
  obtain ⟨mA, J, _⟩ := ins_get I.hok ha
  obtain ⟨od, J, _⟩ := J.look
  refine PySem.W.kso_call (Nat.lt_of_le_of_lt (Nat.le_add_right _ 64) hr.room.in1.in1.units) I.kIn J hs hf ?_
  refine wpAny_call (codeAny_mono (F X.A.in1.in1 X.stack s H [.ref a] [.ref a] _ E0 ⟨hr.room.in1.in1, hr.gd⟩ I.env0.in1.in1 (.cons rfl .nil) hsp) fun z s' hq => ?_)
  have fin := end_fn pass0 I hq
  cases z with
  | error er => exact fin
  | ok fl =>
    cases fl with
    | ret u =>
      obtain ⟨v', H', I', rv, ⟨zz, e⟩, q⟩ := fin
      subst e
      obtain ⟨t, rfl⟩ := rv
      exact ⟨.str zz, H', I', ⟨_, rfl⟩, q⟩
    | next => exact fin
    | brk => exact fin
    | cont => exact fin
end LB
namespace ML
open PySem PySem.Spec PyProof.Rows L2 KS GL LB
section
variable {K : PySem.W.Frag} {ρ : MS} {Q : Rt → MS → Prop} {ta tb te to : TE} {r1 r2 : Rt} {C : Addr} {M : MSp}
theorem da_strs {H : Hp} : ∀ {ys : List Str} {xs : List V}, DaAll K H xs (ys.map PyData.str) → xs = ys.map V.str
  | [], _, h => by cases h; rfl
  | y :: ys, _, h => by
    cases h with
    | cons h1 h2 =>
      cases h1
      rw [da_strs h2]
      rfl
theorem strs_da (H : Hp) : ∀ ys : List Str, DaAll K H (ys.map V.str) (ys.map PyData.str)
  | [] => .nil
  | y :: ys => .cons (.str y) (strs_da H ys)
/-- a text's method with one argument -/
theorem ev_m1 {r : V → List V → Hp → VK → Prop} (h : ev to ρ fun r1 ρ1 => ∃ a, rd K ρ1 r1 (.str a) ∧ ev te ρ1 fun r2 ρ2 => opR (fun x y H k => r x [y] H k) r1 r2 ρ2 Q) : ev (tM1 r to te) ρ Q := by
  intro σ H0 H G k S hk
  refine h σ H0 H G _ S fun r1 ρ1 v1 f1 H1 H1' ⟨a, hr, h1⟩ p1 => ⟨⟨a, hr.str p1.sat p1.rt⟩, ?_⟩
  refine h1 σ H1 H1' (fun a => G a ∨ f1 a) _ p1.sat fun r2 ρ2 v2 f2 H2 H2' h2 p2 => ?_
  have rt1 : RtH r1 σ H2 H2' v1 f1 := p1.rt.loc p2.ext.s0 fun a ha => ⟨p2.ext.fr a (.inr ha), (p2.sat.fr a (.inl (.inr ha))).2⟩
  refine h2 σ H2 H2' G v1 v2 f1 f2 _ (p2.sat.frame fun a ha => ?_) rt1 p2.rt p1.dis (fun a h1 h2 => p2.dis a h1 (.inl h2)) (fun a h1 h2 => p2.dis a h2 (.inr h1)) fun r ρ' v f H3 H3' h3 p3 => hk r ρ' v f H3 H3' h3 (post_ext (p1.ext.trans (p2.ext.weak fun _ => .inl)) p3)
  rcases ha with h | h | h
  · exact .inl (.inl h)
  · exact .inl (.inr h)
  · exact .inr h
theorem op_join_ {a : Str} {ys : List Str} (h1 : rd K ρ r1 (.str a)) (h2 : rdS K ρ r2 (ys.map .str)) (hl : (ys.map (·.length)).sum + ys.length * a.length ≤ 16777216) (q : Q (.val (dat K (.str (Txt.join a ys)))) ρ) :
    opR (fun x y H k => ∃ a p, ∃ ys : List Str, x = .str a ∧ [y] = [V.ref p] ∧ (SqL K H p (ys.map V.str) ∨ SqT K H p (ys.map V.str)) ∧ (ys.map (·.length)).sum + ys.length * a.length ≤ 16777216 ∧ k (.str (Txt.join a ys)) H) r1 r2 ρ Q := by
  intro σ H0 H G v1 v2 f1 f2 k S e1 e2 _ _ _ hk
  obtain ⟨p, xs, rfl, hs, hx⟩ := h2.seq S e2
  obtain rfl := da_strs hx
  exact ⟨a, p, ys, h1.str S e1, rfl, hs, hl, hk _ _ _ _ _ _ q (post_sc S (fun _ => .inl) (.str _))⟩
theorem op_split_ {a b : Str} (h1 : rd K ρ r1 (.str a)) (h2 : rd K ρ r2 (.str b)) (hb : (b.length == 0) = false) (hl : a.length + 2 ≤ sizeLine) (q : Q (.val (lo K ((Txt.split a b).map .str))) ρ) :
    opR (fun x y H k => ∃ a b, x = .str a ∧ [y] = [V.str b] ∧ (b.length == 0) = false ∧ a.length + 2 ≤ sizeLine ∧ rNewStrs (Txt.split a b) H k) r1 r2 ρ Q := by
  intro σ H0 H G v1 v2 f1 f2 k S e1 e2 _ _ _ hk
  refine ⟨a, b, h1.str S e1, by rw [h2.str S e2], hb, hl, fun p hp => hk _ _ _ _ _ _ q (post_own (S.frame fun _ => .inl) hp (strs_da _ _))⟩
theorem un_strI {i : Int} (h : rd K ρ r1 (.int i)) (hl : i.natAbs.log2 < 1920) (q : Q (.val (dat K (.str (toString i)))) ρ) : unR (fun v H k => ∃ i : Int, [v] = [V.int i] ∧ i.natAbs.log2 < 1920 ∧ k (.str (toString i)) H) r1 ρ Q :=
  un_sc h (fun H v1 k e1 hk => by
    cases e1
    exact ⟨i, rfl, hl, hk _ (.str _)⟩) q
theorem un_intS {a : Str} {n : Int} (h : rd K ρ r1 (.str a)) (hn : PySem.intText? a = some n) (hl : a.length ≤ 640) (q : Q (.val (dat K (.int n))) ρ) : unR (fun v H k => ∃ a n, [v] = [V.str a] ∧ PySem.intText? a = some n ∧ a.length ≤ 640 ∧ k (.int n) H) r1 ρ Q :=
  un_sc h (fun H v1 k e1 hk => by
    cases e1
    exact ⟨a, n, rfl, hn, hl, hk _ (.int _)⟩) q
theorem op_addS {x y : Str} (h1 : rd K ρ r1 (.str x)) (h2 : rd K ρ r2 (.str y)) (hl : x.length + y.length ≤ sizeLine) (q : Q (.val (dat K (.str (x ++ y)))) ρ) : opR (fun a b H k => ∃ i j, a = .str i ∧ b = .str j ∧ i.length + j.length ≤ sizeLine ∧ k (.str (i ++ j)) H) r1 r2 ρ Q :=
  op_sc h1 h2 (fun H v1 v2 k e1 e2 hk => by
    cases e1
    cases e2
    exact ⟨x, y, rfl, rfl, hl, hk _ (.str _)⟩) q
theorem op_inSign {c : Nat} {z : Str} (h1 : rd K ρ r1 (.str ⟨#[c]⟩)) (h2 : rd K ρ r2 (.str z)) (q : Q (.val (dat K (.bool (decide (c ∈ z.cps.toList))))) ρ) : opR (fun x y H k => ∃ (c : Nat) (z : Str), x = .str ⟨#[c]⟩ ∧ y = .str z ∧ k (.bl (decide (c ∈ z.cps.toList))) H) r1 r2 ρ Q :=
  op_sc h1 h2 (fun H v1 v2 k e1 e2 hk => by
    cases e1
    cases e2
    exact ⟨c, z, rfl, rfl, hk _ (.bl _)⟩) q
theorem op_ixS {z : Str} {i : Int} {c : Nat} (h1 : rd K ρ r1 (.str z)) (h2 : rd K ρ r2 (.int i)) (hz : z.length ≤ sizeLine) (hc : atI z.cps.toList i = some c) (q : Q (.val (dat K (.str ⟨#[c]⟩))) ρ) : opR rIxS r1 r2 ρ Q :=
  op_sc h1 h2 (fun H v1 v2 k e1 e2 hk => by
    cases e1
    cases e2
    exact ⟨z, i, c, rfl, rfl, hz, hc, hk _ (.str _)⟩) q
/-! ### f".." -/
theorem ev_fmtS {y : Str} (h : ev te ρ fun r ρ1 => rd K ρ1 r (.str y) ∧ y.length ≤ sizeLine ∧ Q (.val (dat K (.str y))) ρ1) : ev (tFmt te) ρ Q := by
  intro σ H0 H G k S hk
  refine h σ H0 H G _ S fun r ρ1 v f H1 H1' ⟨hr, hl, q⟩ p => .inl ⟨y, hr.str p.sat p.rt, hl, hk _ _ _ _ _ _ q (post_ext p.ext (post_sc p.sat (fun _ => .inl) (.str _)))⟩
theorem ev_fmtI {i : Int} (h : ev te ρ fun r ρ1 => rd K ρ1 r (.int i) ∧ i.natAbs.log2 < 1920 ∧ Q (.val (dat K (.str (toString i)))) ρ1) : ev (tFmt te) ρ Q := by
  intro σ H0 H G k S hk
  refine h σ H0 H G _ S fun r ρ1 v f H1 H1' ⟨hr, hl, q⟩ p => .inr ⟨i, hr.int p.sat p.rt, hl, hk _ _ _ _ _ _ q (post_ext p.ext (post_sc p.sat (fun _ => .inl) (.str _)))⟩
/-- either -/
theorem ev_fmt {y : Str} (h : ev te ρ fun r ρ1 => ((rd K ρ1 r (.str y) ∧ y.length ≤ sizeLine) ∨ ∃ i : Int, rd K ρ1 r (.int i) ∧ i.natAbs.log2 < 1920 ∧ y = toString i) ∧ Q (.val (dat K (.str y))) ρ1) : ev (tFmt te) ρ Q := by
  intro σ H0 H G k S hk
  refine h σ H0 H G _ S fun r ρ1 v f H1 H1' ⟨hr, q⟩ p => ?_
  rcases hr with ⟨hr, hl⟩ | ⟨i, hr, hl, rfl⟩
  · exact .inl ⟨y, hr.str p.sat p.rt, hl, hk _ _ _ _ _ _ q (post_ext p.ext (post_sc p.sat (fun _ => .inl) (.str _)))⟩
  · exact .inr ⟨i, hr.int p.sat p.rt, hl, hk _ _ _ _ _ _ q (post_ext p.ext (post_sc p.sat (fun _ => .inl) (.str _)))⟩
def evJ (ts : List TE) (acc : Str) (ρ : MS) (Q : Str → MS → Prop) : Prop := ∀ (σ : L2.St) (H0 H : Hp) (G : FP) (k : Str → Hp → Prop), Sat ρ σ H0 H G → (∀ out ρ' H0' H', Q out ρ' → Ext G H0 H H0' H' → Sat ρ' σ H0' H' G → k out H') → tJs ts acc σ H k
theorem evJ_nil {acc : Str} {Q : Str → MS → Prop} (q : Q acc ρ) : evJ [] acc ρ Q := fun σ H0 H G k S hk => hk _ _ _ _ q Ext.refl S
theorem evJ_cons {t : TE} {ts : List TE} {acc : Str} {Q : Str → MS → Prop} (h : ev t ρ fun r ρ1 => ∃ y, r = .val (dat K (.str y)) ∧ (acc ++ y).length ≤ sizeLine ∧ evJ ts (acc ++ y) ρ1 Q) : evJ (t :: ts) acc ρ Q := by
  intro σ H0 H G k S hk
  refine h σ H0 H G _ S fun r ρ1 v f H1 H1' ⟨y, e, hl, h2⟩ p => ?_
  subst e
  have hv := p.rt.1
  cases hv
  refine ⟨y, rfl, hl, h2 σ H1 H1' G _ (p.sat.frame fun _ => .inl) fun out ρ' H0' H' q x S' => hk _ _ _ _ q (p.ext.trans x) S'⟩
theorem ev_js {ts : List TE} (h : evJ ts Str.empty ρ fun out ρ' => Q (.val (dat K (.str out))) ρ') : ev (fun σ H k => tJs ts Str.empty σ H fun out H1 => k (.str out) H1) ρ Q := by
  intro σ H0 H G k S hk
  exact h σ H0 H G _ S fun out ρ' H0' H' q x S' => hk _ _ _ _ _ _ q (post_ext x (post_sc S' (fun _ h => h) (.str out)))
theorem un_strOwn {P1 : Pd} (e1 : r1 = .val (pu P1)) (i1 : ∃ m, insP C m P1) (q : M [pu P1] fun R _ => ∃ z : Str, R = dat K (.str z) ∧ Q (.val R) ρ) : unR (fun v H k => rStrOwn C (spOf 0 M) [v] H k) r1 ρ Q := by
  subst e1
  intro σ H0 H G v1 f1 k S h1 _ hk
  have p1 := h1.1
  obtain ⟨m1, i1⟩ := i1
  obtain ⟨a, dx, fs, rfl, ha, _⟩ := i1 _ _ p1
  refine ⟨a, dx, fs, rfl, S.same _ _ ha, ?_⟩
  refine sp_call0 (Ps := [P1]) (Q := fun r ρ' => ∃ z : Str, r = .val (dat K (.str z)) ∧ Q r ρ') (ρ := ρ) (S.frame (G' := G) fun _ => .inl) rfl (fun i P e => ?_) ?_ fun r ρ' v f H3 H3' ⟨z, e, q⟩ p3 => ⟨?_, hk r ρ' v f H3 H3' q p3⟩
  · match i, e with
    | 0, e => cases e; exact ⟨_, rfl, p1⟩
  · have e : (fun (R : Res) (_ : List Res) => ∃ z : Str, Rt.val R = .val (dat K (.str z)) ∧ Q (.val R) ρ) = fun R _ => ∃ z : Str, R = dat K (.str z) ∧ Q (.val R) ρ := by
      funext R _
      exact propext ⟨fun ⟨b, e, q⟩ => ⟨b, by injection e, q⟩, fun ⟨b, e, q⟩ => ⟨b, by rw [e], q⟩⟩
    show M [pu P1] (fun R _ => ∃ z : Str, Rt.val R = .val (dat K (.str z)) ∧ Q (.val R) ρ)
    rw [e]
    exact q
  · subst e
    have hv := p3.rt.1
    cases hv
    exact ⟨z, rfl⟩
end
end ML

/-! Classmethods called, by position and by a keyword; a class held by a local name called. -/
namespace LB
open PySem PySem.Spec PyProof.Rows L2 KS GL ML
section
variable {X : Cx} {k : Nat} {C p g q : Addr} {mc : Value} {sp : Sp} {o e : Expr} {es : List Expr} {m : Str} {pos apos : Pos} {ta : TE} {t : TA} {pl : Sem Bool} {pins : List (Addr × Obj)} {σ : L2.St} {H : Hp} {s : Shared} {Q : VK}
theorem cm_run {args : Args} {vs : List V} (I : Inv X ((q, PySem.W.methodObj (.ref g) (.ref C)) :: pins) σ H s)
    (h : codeAny (model X.prog X.w) X.A (.call (.ref g) ⟨.ref C :: args.pos, args.kw⟩) (CR CX0 X.stack X.prog X.w H s Q E0) s) : wpAny (model X.prog X.w) X.A (call (.ref q) args.pos args.kw) (EP X pins σ Q) X.xe s := by
  have z : wpAny (model X.prog X.w) X.A (call (.ref q) args.pos args.kw) (EP X ((q, PySem.W.methodObj (.ref g) (.ref C)) :: pins) σ Q) X.xe s :=
    wpAny_call (PySem.W.method_call (ClX.pin_at I) (codeAny_mono h fun r s' hq => by
      have fin := end_fn pass0 I hq
      cases r with
      | error er => exact fin
      | ok fl => cases fl <;> exact fin))
  exact thn z fun _ _ y => ClX.unpinE y
/-- C.m(e, ..) -/
theorem pe_cmethG (he : PE X o ta) (r : ClX.CRead X.K C mc) (c : ClX.CMet X.K C mc m p g) (F : FnGR X.prog X.w X.K X.mg X.base k g sp) (hr : RoomG k X.A) (ha : PA X (e :: es) t)
    (hst : starEach (e :: es) X.env = (false, eval e X.env) :: starEach es X.env := by rfl) (hpl : (backTo pos (starEach es X.env)).any (·.1) = false := by rfl)
    (ht : eval (.Call (.Attribute o m apos) (e :: es) [] pos) X.env = (do
      let ov ← eval o X.env
      standAt apos.atName
      let (f, first) ← holding [ov] (getMethod ov m pl)
      callWith pos f first (backTo pos (starEach (e :: es) X.env)) (backToKw pos (keywordEach [] X.env))) := by rfl) :
    PE X (.Call (.Attribute o m apos) (e :: es) [] pos) (ClX.tCMeth C sp E0 ta t) := by
  refine ⟨fun pins s σ H Q I h => PySem.W.methodCall_KW (pl := pl) (thn (he.run pins s σ H _ I h) fun u s1 hh => ?_) ht⟩
  obtain ⟨x, H1, I1, rx, ex, q⟩ := hh
  subst ex
  obtain rfl : u = Value.ref C := rx
  refine ClX.getmethcm_ok I1 r c fun s2 I2 => ?_
  refine ClX.callwith_cm I2 (ClX.base_none I1 (Nat.le_refl _)) c.fi (thn (ha.run pos _ s2 σ H1 _ I2 q) fun us s3 hh => ?_) hst hpl
  obtain ⟨vs, H2, I3, rv, q2⟩ := hh
  exact ⟨⟨ClX.pin_at I3, I3.kIn⟩, cm_run (args := ⟨us, []⟩) (vs := vs) I3 (F X.A X.stack s3 H2 (.ref C :: us) (.ref C :: vs) Q E0 hr I3.env0 (.cons rfl rv) q2)⟩
/-- C.m(y = e) -/
theorem pe_cmethGK {fd : FuncData} {ps : List Str} {y : Str} {te : TE} {kp : Pos} (he : PE X o ta) (r : ClX.CRead X.K C mc) (c : ClX.CMet X.K C mc m p g) (F : FnG X.prog X.w X.K X.mg X.base CX0 k g fd ps sp) (hr : RoomG k X.A) (ha : PE X e te)
    (hb : ∀ (s : Shared) (a u : Value), BindsTo s fd ⟨[a], [(y, u)]⟩ (ps.zip [a, u]))
    (hall : (backToKw pos (keywordEach [⟨some y, e, kp⟩] X.env)).all (·.1.isSome) = true := by rfl) (hks : (backToKw pos (keywordEach [⟨some y, e, kp⟩] X.env)).filterMap (·.1) = [y] := by rfl)
    (hpl : ((backTo pos (starEach [] X.env)).any (·.1) || (backToKw pos (keywordEach [⟨some y, e, kp⟩] X.env)).any (·.1.isNone)) = false := by rfl)
    (ht : eval (.Call (.Attribute o m apos) [] [⟨some y, e, kp⟩] pos) X.env = (do
      let ov ← eval o X.env
      standAt apos.atName
      let (f, first) ← holding [ov] (getMethod ov m pl)
      callWith pos f first (backTo pos (starEach [] X.env)) (backToKw pos (keywordEach [⟨some y, e, kp⟩] X.env))) := by rfl) :
    PE X (.Call (.Attribute o m apos) [] [⟨some y, e, kp⟩] pos) (ClX.tCMeth C sp E0 ta (tCons te tNil)) := by
  refine ⟨fun pins s σ H Q I h => PySem.W.methodCall_KW (pl := pl) (thn (he.run pins s σ H _ I h) fun u s1 hh => ?_) ht⟩
  obtain ⟨x, H1, I1, rx, ex, q⟩ := hh
  subst ex
  obtain rfl : u = Value.ref C := rx
  refine ClX.getmethcm_ok I1 r c fun s2 I2 => ?_
  refine PySem.W.callWith_of (P := PySem.W.MethP X.K s1.heap.objs.size g (.ref C)) hpl (PySem.W.keeps_M c.fi) (evalArgs_kw_nil hall (thn ((pk_cons ha pk_nil).run pos _ s2 σ H1 (fun vs H2 => match vs with | [v] => sp [.ref C, v] H2 Q E0 | _ => False) I2 q) fun us s3 hh => ?_))
  obtain ⟨vs, H2, I3, rv, q2⟩ := hh
  match vs, rv, q2 with
  | [v1], rv, q2 =>
    obtain ⟨⟩ | ⟨r1, r2⟩ := rv
    cases r2
    rw [hks]
    exact ⟨⟨ClX.pin_at I3, I3.kIn⟩, cm_run (args := ⟨[], [(y, _)]⟩) (vs := [v1]) I3 (F.run X.A X.stack s3 H2 ⟨[.ref C], [(y, _)]⟩ [.ref C, _] [.ref C, v1] Q E0 hr I3.env0 (hb s3 _ _) (.cons rfl (.cons r1 .nil)) q2)⟩
end
/-- x(e, ..), the local x (slot i) the class at C -/
def tMakeL (C : Addr) (i : Nat) (sp : Sp) (t : TA) : TE := fun σ H Q => σ[i]? = some (some (V.ref C)) ∧ tMake C sp [] E0 t σ H Q
theorem pe_makeL {X : Cx} {k i : Nat} {C f : Addr} {fd : FuncData} {ps : List Str} {sp : Sp} {x : Str} {p pos : Pos} {e : Expr} {es : List Expr} {t : TA} (hn : PE X (.Name x p) (tVar i)) (M : Mk X.K C f) (F : FnOk X.prog X.w X.K X.mg X.base CX0 k f fd ps sp) (hr : Room (k + 1) X.A) (hb : Binds X.K fd ps [])
    (ha : PA X (e :: es) t) (he : starEach (e :: es) X.env = (false, eval e X.env) :: starEach es X.env := by rfl) (hpl : (backTo pos (starEach es X.env)).any (·.1) = false := by rfl) : PE X (.Call (.Name x p) (e :: es) [] pos) (tMakeL C i sp t) := by
  refine ⟨fun pins s σ H Q I ⟨h0, h⟩ => ?_⟩
  refine wpAny_Call_Name_kw (thn (hn.run pins s σ H (fun v H' => v = .ref C ∧ tMake C sp [] E0 t σ H' Q) I ⟨_, h0, rfl, h⟩) fun u s0 hh => ?_)
  obtain ⟨v, H0, I0, r0, rfl, h⟩ := hh
  obtain rfl : u = Value.ref C := r0
  refine PySem.W.callWith_K (h₀ := X.base) I0.ok.mod.kin M.kp (thn (ha.run pos pins s0 σ H0 _ I0 h) fun us s1 ⟨vs, H1, I1, r, q⟩ => ⟨I1.kIn, ?_⟩) he hpl
  exact run_make M F hr hb .nil pass0 I1 r q
end LB

/-! number_in, states_in, arrow_in. -/
namespace K24
open PySem L2 KS GL LB K24m ML
open CH (outs sucs ChC ChartAt cf cf_arrows cf_states cf_no ChartOk spInit arrowB labelB)
open PySem.Spec hiding Row
open PyProof.Rows hiding cnt
open TL (tl numL)
section
variable {P : Program} {w : World} {K : PySem.W.Frag} {mg : Str → Option Value} {base : Heap}
set_option hygiene false
local macro_rules | `(tactic| k_dat 0 "rd") => `(tactic| first | with_reducible apply rd.val | with_reducible apply rd.own | (apply rd.slot; apply Eq.refl) | (apply rd.slotL; apply Eq.refl))
local macro_rules | `(tactic| k_dat 0 "rdS") => `(tactic| first | with_reducible (apply rdS.l; apply rd.val) | with_reducible (apply rdS.t; apply rd.val) | with_reducible (apply rdS.l; apply rd.own) | (apply rdS.l; apply rd.slotL; apply Eq.refl) | (apply rdS.l; apply rd.slot; apply Eq.refl) | (apply rdS.t; apply rd.slot; apply Eq.refl))
local macro_rules | `(tactic| k_dat 0 "rdD") => `(tactic| first | with_reducible apply rdD.val | with_reducible apply rdD.own | (apply rdD.slot; apply Eq.refl) | (apply rdD.slotP; apply Eq.refl))
local macro_rules | `(tactic| k_dat 0 "sc") => `(tactic| first | apply Sc.int | apply Sc.bl | apply Sc.str | apply Sc.non)
local macro_rules | `(tactic| k_dat 0 "asD") => `(tactic| first | with_reducible apply asD.val | with_reducible apply asD.own | (apply asD.slot; apply Eq.refl))
local macro_rules | `(tactic| k_dat 0 "asX") => `(tactic| first | with_reducible apply asX.pure | with_reducible apply asX.own | (apply asX.slot; apply Eq.refl) | with_reducible apply asX.keep)
local macro_rules | `(tactic| k_dat 0 "nf") => `(tactic| first | (conv => arg 3; dsimp only [wipeM, List.set, List.map]) | skip)
local macro_rules | `(tactic| k_dat 0 "eq") => `(tactic| first | (dsimp only [wipeM, List.set, List.map]; done) | (dsimp only [wipeM, List.set, List.map]; apply Eq.refl) | apply Eq.refl)
local macro_rules | `(tactic| k_dat 0 "st") => `(tactic| first
  | ((with_reducible apply x_seq); k_dat 0 "nf") | ((with_reducible apply x_parT2); (case hi => omega); (case hj => omega)) | ((with_reducible apply x_asg2); (case hi => omega); (case hj => omega)) | ((with_reducible apply x_asg3); (case hi => omega); (case hj => omega); (case hl => omega)) | ((with_reducible apply x_par4); (case hi => omega); (case hj => omega); (case hk => omega); (case hl => omega)) | ((with_reducible apply x_par2); (case hij => omega); (case hi => omega); (case hj => omega)) | with_reducible first | (apply x_asg; case hl => decide) | apply x_drop | apply x_ret | apply x_next | apply x_break | apply x_cont
  | apply x_dput (K := K) | apply x_putN (K := K) | apply x_retN)
local macro_rules | `(tactic| k_dat 0 "ex") => `(tactic| with_reducible first
  | apply ev_int (K := K) | apply ev_str (K := K) | apply ev_bl (K := K) | apply ev_non (K := K)
  | apply ev_tup (K := K) | apply ev_lst (K := K) | apply ev_op | apply ev_un | apply ev_sset_rows (K := K) | apply ev_sset_ints (K := K) | apply ev_cb1 | apply ev_cb2 | apply ev_andV (K := K) | apply ev_orV (K := K) | apply ev_notV (K := K) | apply ev_if
  | apply ev_sl | apply evO_none | apply evO_some (K := K) | apply ev_rev | apply ev_bm1 | apply ev_bm0 | apply ev_dnew (K := K) | apply ev_disp (K := K) | apply ev_dget1 (K := K) | apply ev_dget2 (K := K) | apply ev_dinI (K := K) | apply ev_dninI (K := K) | apply ev_chainI (K := K)
  | apply ev_call | apply ev_call1
  | apply evD_nil | apply evD_cons | apply evA_nil | apply evA_x (K := K) | apply evPs_nil | apply evPs_cons
  | apply ev_dispN (K := K) | apply evPsN_nil | apply evPsN_cons | apply ev_ninN (K := K) | apply ev_ninR (K := K) | apply ev_dcR (K := K)
  | apply evT_val (K := K) | apply evT_B (K := K) | apply evT_and | apply evT_or | apply evT_not | apply evT_yes)
local macro_rules | `(tactic| k_dat 0 "vr") => `(tactic| first
  | ((with_reducible apply ev_var); (case h => apply Eq.refl)) | ((with_reducible apply ev_at); (case h => apply Eq.refl))
  | ((with_reducible apply x_augI); (case hi => decide); (case h0 => apply Eq.refl)))
local macro_rules | `(tactic| k_dat 0 "tg") => `(tactic| first
  | (with_reducible apply tg_name) | ((with_reducible apply tg_move); (case h => apply Eq.refl)) | ((with_reducible apply tg_tup); (case hn => rfl)) | (with_reducible apply tg_row) | (with_reducible apply tgs_nil) | (with_reducible apply tgs_consN))
local macro_rules | `(tactic| k_dat 0 "len") => `(tactic| ((first | apply lt_line | apply le_line); (try simp only [List.length_map, List.length_append, List.length_cons, List.length_nil, List.length_range]); omega))
local macro_rules | `(tactic| k_dat 0 "op") => `(tactic| first
  | ((with_reducible apply op_i0 (K := K)); (case h1 => k_dat 0 "rd"); (case h2 => k_dat 0 "rd"); (case hd => k_dat 0 "sc"))
  | ((with_reducible apply op_eqI (K := K)); (case h1 => k_dat 0 "rd"); (case h2 => k_dat 0 "rd")) | ((with_reducible apply op_neI (K := K)); (case h1 => k_dat 0 "rd"); (case h2 => k_dat 0 "rd"))
  | ((with_reducible apply op_eqS (K := K)); (case h1 => k_dat 0 "rd"); (case h2 => k_dat 0 "rd")) | ((with_reducible apply op_neS (K := K)); (case h1 => k_dat 0 "rd"); (case h2 => k_dat 0 "rd"))
  | ((with_reducible apply op_ixR0 (K := K)); (case h1 => k_dat 0 "rd"); (case h2 => k_dat 0 "rd")) | ((with_reducible apply op_ixR1 (K := K)); (case h1 => k_dat 0 "rd"); (case h2 => k_dat 0 "rd")) | ((with_reducible apply op_ixR2 (K := K)); (case h1 => k_dat 0 "rd"); (case h2 => k_dat 0 "rd"))
  | ((with_reducible apply un_i (K := K)); (case h1 => k_dat 0 "rd"); (case hd => k_dat 0 "sc"))
  | ((with_reducible apply un_len (K := K)); (case h => k_dat 0 "rdS")) | ((with_reducible apply un_list (K := K)); (case h => k_dat 0 "rdS")) | ((with_reducible apply un_tuple (K := K)); (case h => first | (apply rdS.l; k_dat 0 "rd") | (apply rdS.t; k_dat 0 "rd")))
  | ((with_reducible apply un_int (K := K)); (case h => k_dat 0 "rd")) | ((with_reducible apply un_lenD (K := K)); (case h => k_dat 0 "rdD")) | ((with_reducible apply un_listK (K := K)); (case h => k_dat 0 "rdD"))
  | ((with_reducible apply op_append (K := K)); (case hd => k_dat 0 "asD"); (case e => apply Eq.refl); (case hl => k_dat 0 "len"))
  | ((with_reducible apply op_cat_ (K := K)); (case h1 => k_dat 0 "rd"); (case h2 => k_dat 0 "rd"); (case hl => k_dat 0 "len"))
  | ((with_reducible apply op_max2 (K := K)); (case h1 => k_dat 0 "rd"); (case h2 => k_dat 0 "rd")) | ((with_reducible apply op_min2 (K := K)); (case h1 => k_dat 0 "rd"); (case h2 => k_dat 0 "rd"))
  | ((with_reducible apply sl_list_ (K := K)); (case h1 => k_dat 0 "rd")) | ((with_reducible apply sl_tup_ (K := K)); (case h1 => k_dat 0 "rd")))
local macro_rules | `(tactic| k_dat 0 "sp") => `(tactic| first
  | ((with_reducible (apply Exists.intro; apply And.intro)); (case left => with_reducible apply Eq.refl))
  | ((with_reducible (apply Exists.intro; apply And.intro)); (case left => first | k_dat 0 "rd" | k_dat 0 "rdD"))
  | ((with_reducible apply And.intro); (case left => (with_reducible apply Exists.intro); k_dat 0 "rdD"))
  | ((with_reducible (apply Exists.intro; apply Exists.intro; apply And.intro)); (case left => first | k_dat 0 "asD" | k_dat 0 "asX"))
  | ((with_reducible apply And.intro); (case left => apply len_le; apply Eq.refl))
  | ((with_reducible (apply Exists.intro (Sum.inl _); apply And.intro)); (case left => apply Eq.refl)) | ((with_reducible (apply Exists.intro (Sum.inr _); apply And.intro)); (case left => apply Eq.refl)))
local macro_rules | `(tactic| k_dat 0 "wk") => `(tactic| with_reducible first | apply x_forD (K := K) | apply x_lc (K := K) | apply wkD_list | apply wkD_tup | apply wkD_seq | apply wkD_rng1 | apply wkD_rng2 | apply wkD_str)
local macro_rules | `(tactic| k_dat 0 "ml1") => `(tactic| first | k_dat 0 "st" | k_dat 0 "ex" | k_dat 0 "wk" | k_dat 0 "vr" | k_dat 0 "tg" | k_dat 0 "op" | k_dat 0 "sp")
local macro_rules | `(tactic| k_dat 0 "ml") => `(tactic| repeat k_dat 0 "ml1")
local macro_rules | `(tactic| k_dat 0 "tx") => `(tactic| first
  | ((with_reducible apply op_inSign (K := K)); (case h1 => k_dat 0 "rd"); (case h2 => k_dat 0 "rd"))
  | ((with_reducible apply op_addS (K := K)); (case h1 => k_dat 0 "rd"); (case h2 => k_dat 0 "rd"))
  | ((with_reducible apply op_isN_ (K := K)); (case h1 => k_dat 0 "rd"); (case h2 => k_dat 0 "rd"))
  | ((with_reducible apply op_notN_ (K := K)); (case h1 => k_dat 0 "rd"); (case h2 => k_dat 0 "rd"))
  | ((with_reducible apply un_strI (K := K)); (case h => k_dat 0 "rd"))
  | ((with_reducible apply op_join_ (K := K)); (case h1 => k_dat 0 "rd"))
  | ((with_reducible apply op_split_ (K := K)); (case h1 => k_dat 0 "rd"); (case h2 => k_dat 0 "rd"))
  | with_reducible apply ev_m1 (K := K) | with_reducible apply ev_js (K := K) | with_reducible apply evJ_cons (K := K) | with_reducible apply evJ_nil)
local macro_rules | `(tactic| k_dat 0 "ml1") => `(tactic| first | k_dat 0 "st" | k_dat 0 "ex" | k_dat 0 "wk" | k_dat 0 "vr" | k_dat 0 "tg" | k_dat 0 "op" | k_dat 0 "sp" | k_dat 0 "tx")
def labelM (K : PySem.W.Frag) : MSp := fun Rs q => ∃ z : Str, Rs = [dat K (.str z)] ∧ z.length ≤ 1000 ∧ q (dat K (.bool (labelB z))) []
abbrev S_is_label (K : PySem.W.Frag) : Sp := spOf 0 (labelM K)
theorem sat_one0 {P : Pd} {vs : List V} {H0 H : Hp} {G : FP} (S : Sat [some (pu P)] (vs.map some) H0 H G) : ∃ v, vs = [v] ∧ P.p H0 v := by
  have hl := S.len
  obtain ⟨v, f, e1, r, d⟩ := S.get (i := 0) (R := pu P) rfl
  match vs, hl with
  | [v'], _ =>
    obtain rfl : v' = v := Option.some.inj (Option.some.inj e1)
    exact ⟨v', rfl, r.1⟩
theorem fin_sc {ρ : MS} {σ : L2.St} {H0 H H' : Hp} {G : FP} (S : Sat ρ σ H0 H G) (s : Same H H') : Ext G H0 H H0 H' ∧ Sat [] [] H0 H' fun a => G a ∨ False := by
  have hG : ∀ a, G a → H' a = H a := fun a ha => by
    cases e : H a with
    | none => exact absurd e (S.fr a ha).1
    | some u => exact s a u e
  refine ⟨⟨Same.refl _, hG⟩, sat_nil (S.same.trans s) fun a ha => ?_⟩
  have ha := ha.resolve_right id
  exact ⟨by rw [hG a ha]; exact (S.fr a ha).1, (S.fr a ha).2⟩
theorem label_conv (vs : List V) (H : Hp) (Q : VK) (E : XK) (h : S_is_label K vs H Q E) : CH.spLabel vs H Q E := by
  obtain ⟨Rs, H0, G, q, S, ⟨z, rfl, hz, hq⟩, fin⟩ := h
  obtain ⟨v, rfl, p1⟩ := sat_one0 S
  cases p1
  refine ⟨z, rfl, hz, fun H' s => ?_⟩
  obtain ⟨x1, x2⟩ := fin_sc S s
  exact fin _ _ hq _ (fun _ => False) H0 H' x1 ⟨.bl _, fun _ h => h⟩ (fun _ h => h.elim) x2
def digS : Str := "0123456789"
theorem tl_digS : tl digS = [48, 49, 50, 51, 52, 53, 54, 55, 56, 57] := by decide +kernel
theorem tl_numN0 {n : Nat} (h : (numL n).head? = some 48) : n = 0 := by
  induction n using Nat.strongRecOn with
  | ind n ih =>
    rcases Nat.lt_or_ge n 10 with c | c
    · rw [TL.numL_lt c] at h
      simp at h
      omega
    · rw [TL.numL_step c] at h
      have hne := TL.numL_ne (n / 10)
      have h2 : (numL (n / 10)).head? = some 48 := by
        cases e : numL (n / 10) with
        | nil => exact absurd e hne
        | cons x l => rw [e] at h; exact h
      have := ih (n / 10) (by omega) h2
      omega
def numInM (K : PySem.W.Frag) : MSp := fun Rs q => ∃ n : Nat, Rs = [dat K (.str (numN n))] ∧ n < 10 ^ 6 ∧ q (dat K (.int n)) []
abbrev S_number_in (K : PySem.W.Frag) : Sp := spOf 0 (numInM K)
theorem scNumberIn : FnScope ["word", "sign"] ["word"] (defScope sNumberIn) := ⟨rfl, rfl, rfl, by decide +kernel, rfl, by decide +kernel, by decide +kernel⟩
theorem ok_numberIn {f : Addr} {fd : FuncData} (G : Fun K "number_in" "number_in" sNumberIn f fd) (T : CH.Blt2 mg) (gD : ∃ u, mg "DIGITS" = some u ∧ RelV (.str digS) u) : FnG P w K mg base CX0 1 f fd ["word"] (S_number_in K) := by
  refine fn_ml G scNumberIn (fun Rs q ⟨_, h, _⟩ => by rw [h]; rfl) (by decide) fun cdv A outer s H E hrG => ?_
  have hr := hrG.room
  obtain ⟨uDig, gDig, rDig⟩ := gD
  refine ⟨_, (pss_cons (ps_if (PW.pt (pw_or (pt_cmpR op_eq (pv 0) pe_str (nomark _)) (pw_or (pt_not (pt_val (pe_callB (cr_all rfl) (by rfl) T.b_all (by decide +kernel) (pa_cons (pe_lc (own := [("sign", 1)]) (g := gName 1) (tt := tYes) (te := (tOp _ (tVar 1) _)) rfl scNumberIn.nd (pi_str (pv 0)) (blkOk_by (own := [("sign", 1)]) (N := ["word", "sign"]) (sc := defScope sNumberIn) (by decide +kernel)) (fun _ _ _ _ _ => (pg_name (i := 1) scNumberIn.nd rfl (by first | exact Or.inl rfl | exact Or.inr rfl))) (fun _ _ _ _ _ => pts_nil) (fun _ _ _ _ _ => (pe_cmpR op_in_sign (pv 1) (pe_glob rfl gDig rDig) (by rfl)))) pa_nil)))) (pw_or1 (PW.pt (pw_and (pt_cmpR op_eq (pe_ix ix_str (pv 0) pe_int (fun _ _ => rfl)) pe_str (nomark _)) (pw_and1 (pt_cmpR op_ne (pv 0) pe_str (nomark _)))))))))
    (pss_one (ps_ret pe_non))
    pss_nil)
  (pss_one (ps_ret (pe_callTy call_int_str (by rfl) T.b_int (by decide +kernel) (pa_cons (pv 0) pa_nil))))), ?_⟩
  rintro Rs q ⟨n, rfl, hn, hq⟩
  rw [outF_eq]
  try dsimp only [cxOf, Cx.nox, Cx.wish]
  show ML.ex 0 _ [some (dat K (.str (numN n))), none] _
  have hne : tl (numN n) ≠ [] := by rw [tl_numN]; exact TL.numL_ne n
  have hlen := numN_len hn
  have hll : (tl (numN n)).length ≤ 6 := by rw [← TL.len_tl]; exact hlen
  have e0 : ¬ numN n = "" := fun z => by
    have := congrArg tl z
    exact hne (this.trans (by decide +kernel))
  have hal : ((tl (numN n)).map fun c => decide (c ∈ tl digS)).all id = true := by
    rw [List.all_eq_true]
    intro b hb
    obtain ⟨c, hc, rfl⟩ := List.mem_map.mp hb
    rw [tl_numN] at hc
    have := num_sign hc
    rw [tl_digS]
    simp
    omega
  obtain ⟨c0, hc0⟩ : ∃ c, (tl (numN n))[0]? = some c := by
    cases e : tl (numN n) with
    | nil => exact absurd e hne
    | cons x l => exact ⟨x, rfl⟩
  k_dat 0 "ml"
  apply x_if
  k_dat 0 "ml"
  refine ⟨fun h => absurd (of_decide_eq_true h) e0, fun _ => ?_⟩
  k_dat 0 "ml"
  refine lc_fm (tl (numN n)) (fun c : Nat => PyData.str ⟨#[c]⟩) rfl (by omega) (fun _ => true) (fun c => .bool (decide (c ∈ tl digS))) (fun c hc => ⟨[1], by decide, ?_⟩) ?_
  · k_dat 0 "ml"
    refine ⟨fun _ => ?_, fun h => Bool.noConfusion h⟩
    k_dat 0 "ml"
    exact ⟨rfl, rfl, by k_dat 0 "eq"⟩
  rw [List.filter_eq_self.mpr fun _ _ => rfl]
  refine un_all (bs := (tl (numN n)).map fun c => decide (c ∈ tl digS)) (by rw [List.map_map]; exact rd.own) ?_
  rw [hal]
  refine ⟨true, rfl, fun h => Bool.noConfusion h, fun _ => ?_⟩
  k_dat 0 "ml"
  refine op_ixS rd.val rd.val (le_line (by omega)) (c := c0) (atI_nat (j := 0) hc0) ?_
  k_dat 0 "ml"
  refine ⟨fun h => ?_, fun h => ?_⟩
  · have e1 : (⟨#[c0]⟩ : Str) = "0" := of_decide_eq_true h
    have e2 : c0 = 48 := by
      have := congrArg tl e1
      rw [show tl ("0" : Str) = [48] by decide +kernel] at this
      simpa [tl] using this
    have e3 : n = 0 := tl_numN0 (by rw [← tl_numN, ← e2, ← hc0]; exact List.head?_eq_getElem?)
    have e4 : numN n = "0" := by
      rw [e3]
      decide +kernel
    k_dat 0 "ml"
    refine ⟨fun h2 => ?_, fun _ => ?_⟩
    · rw [e4] at h2
      simp at h2
    · k_dat 0 "ml"
      refine un_intS (a := numN n) rd.val (TL.int_num (n := n) (by rw [← tl_numN]; omega)) (by omega) ?_
      exact ⟨_, [], ret_val rfl, hq⟩
  · k_dat 0 "ml"
    refine ⟨fun z => Bool.noConfusion z, fun _ => ?_⟩
    k_dat 0 "ml"
    refine un_intS (a := numN n) rd.val (TL.int_num (n := n) (by rw [← tl_numN]; omega)) (by omega) ?_
    exact ⟨_, [], ret_val rfl, hq⟩
def statesInM (K : PySem.W.Frag) : MSp := fun Rs q => ∃ n : Nat, Rs = [dat K (.str (headS n))] ∧ 0 < n ∧ n < 10 ^ 6 ∧ q (dat K (.int n)) []
abbrev S_states_in (K : PySem.W.Frag) : Sp := spOf 0 (statesInM K)
theorem scStatesIn : FnScope ["line", "words"] ["line"] (defScope sStatesIn) := ⟨rfl, rfl, rfl, by decide +kernel, rfl, by decide +kernel, by decide +kernel⟩
theorem ok_statesIn {f : Addr} {fd : FuncData} (G : Fun K "states_in" "states_in" sStatesIn f fd) (T : CH.Blt2 mg) (gS : ∃ u, mg "STATES_WORD" = some u ∧ RelV (.str stS) u) (hnumber_in : HasM P w K mg base "number_in" 1 ["word"] (S_number_in K)) : FnG P w K mg base CX0 2 f fd ["line"] (S_states_in K) := by
  refine fn_ml G scStatesIn (fun Rs q ⟨_, h, _⟩ => by rw [h]; rfl) (by decide) fun cdv A outer s H E hrG => ?_
  have hr := hrG.room
  obtain ⟨uSt, gSt, rSt⟩ := gS
  refine ⟨_, (pss_cons (ps_set (i := 1) scStatesIn.nd rfl (Or.inl rfl) (pe_split (pv 0) pe_str))
  (pss_cons (ps_if (PW.pt (pw_or (pt_cmpR op_ne (pe_callB call_lenQ (by rfl) T.b_len PySem.boot_len (pa_cons (pv 1) pa_nil)) pe_int (nomark _)) (pw_or (pt_cmpR op_ne (pe_ix ix_list (pv 1) pe_int (fun _ _ => rfl)) (pe_glob rfl gSt rSt) (nomark _)) (pw_or1 (pt_cmpR op_eq (pe_ix ix_list (pv 1) pe_int (fun _ _ => rfl)) pe_str (nomark _))))))
    (pss_one (ps_ret pe_non))
    pss_nil)
  (pss_one (ps_ret (pe_hg hnumber_in (hrG.mono (by decide)) rfl (pa_cons (pe_ix ix_list (pv 1) pe_int (fun _ _ => rfl)) pa_nil)))))), ?_⟩
  rintro Rs q ⟨n, rfl, hn0, hn, hq⟩
  rw [outF_eq]
  try dsimp only [cxOf, Cx.nox, Cx.wish]
  show ML.ex 0 _ [some (dat K (.str (headS n))), none] _
  have hl := head_len hn
  k_dat 0 "ml"
  · decide +kernel
  · exact le_line (by omega)
  rw [show (" " : Str) = spS from rfl, head_split]
  k_dat 0 "ml"
  apply x_if
  k_dat 0 "ml"
  refine ⟨fun h => by simp at h, fun _ => ?_⟩
  k_dat 0 "ml"
  refine op_ixL (.slotL rfl) .val (d := .str stS) rfl ?_
  k_dat 0 "ml"
  refine ⟨fun h => by simp at h, fun _ => ?_⟩
  k_dat 0 "ml"
  refine op_ixL (.slotL rfl) .val (d := .str (numN n)) rfl ?_
  k_dat 0 "ml"
  refine ⟨fun h => ?_, fun _ => ?_⟩
  · have e : numN n = numN 0 := (of_decide_eq_true h).trans (by decide +kernel)
    have := numN_inj e
    omega
  k_dat 0 "ml"
  refine op_ixL (.slotL rfl) .val (d := .str (numN n)) rfl ?_
  k_dat 0 "ml"
  refine c_zero [_] ⟨n, rfl, hn, ?_⟩
  exact ⟨_, [], ret_val rfl, hq⟩
def arrowInM (K : PySem.W.Frag) : MSp := fun Rs q => ∃ r : Row, Rs = [dat K (.str (lineS r))] ∧ WOk r ∧ q (dat K (rowD r)) []
abbrev S_arrow_in (K : PySem.W.Frag) : Sp := spOf 0 (arrowInM K)
theorem scArrowIn : FnScope ["line", "words", "source", "target"] ["line"] (defScope sArrowIn) := ⟨rfl, rfl, rfl, by decide +kernel, rfl, by decide +kernel, by decide +kernel⟩
theorem ok_arrowIn {f : Addr} {fd : FuncData} (G : Fun K "arrow_in" "arrow_in" sArrowIn f fd) (T : CH.Blt2 mg) (gE : ∃ u, mg CH.nEND = some u ∧ RelV (.int (-1)) u) (gW : ∃ u, mg "END_WORD" = some u ∧ RelV (.str endS) u) (gP : ∃ u, mg "PARTS" = some u ∧ RelV (.int 3) u)
    (hnumber_in : HasM P w K mg base "number_in" 1 ["word"] (S_number_in K)) (his_label : HasM P w K mg base "is_label" 1 ["thing"] (S_is_label K)) : FnG P w K mg base CX0 2 f fd ["line"] (S_arrow_in K) := by
  refine fn_ml G scArrowIn (fun Rs q ⟨_, h, _⟩ => by rw [h]; rfl) (by decide) fun cdv A outer s H E hrG => ?_
  have hr := hrG.room
  obtain ⟨uEnd, gEnd, rEnd⟩ := gE
  obtain ⟨uEw, gEw, rEw⟩ := gW
  obtain ⟨uPa, gPa, rPa⟩ := gP
  refine ⟨_, (pss_cons (ps_set (i := 1) scArrowIn.nd rfl (Or.inl rfl) (pe_split (pv 0) pe_str))
  (pss_cons (ps_if (PW.pt (pw_or (pt_cmpR op_ne (pe_callB call_lenQ (by rfl) T.b_len PySem.boot_len (pa_cons (pv 1) pa_nil)) (pe_glob rfl gPa rPa) (nomark _)) (pw_or1 (pt_not (pt_val (pe_hg his_label (hrG.mono (by decide)) rfl (pa_cons (pe_ix ix_list (pv 1) pe_int (fun _ _ => rfl)) pa_nil)))))))
    (pss_one (ps_ret pe_non))
    pss_nil)
  (pss_cons (ps_par (i := 2) (j := 3) rfl scArrowIn.nd rfl rfl (by decide) rfl rfl (pa_cons (pe_hg hnumber_in (hrG.mono (by decide)) rfl (pa_cons (pe_ix ix_list (pv 1) pe_int (fun _ _ => rfl)) pa_nil)) (pa_cons (pe_ifExp (pt_cmpR op_eq (pe_ix ix_list (pv 1) pe_int (fun _ _ => rfl)) (pe_glob rfl gEw rEw) (nomark _)) (pe_glob rfl gEnd rEnd) (pe_hg hnumber_in (hrG.mono (by decide)) rfl (pa_cons (pe_ix ix_list (pv 1) pe_int (fun _ _ => rfl)) pa_nil))) pa_nil)) (by rfl))
  (pss_one (ps_ret (pe_ifExp (PW.pt (pw_or (pt_cmpR op_isN (pv 2) pe_non (nomark _)) (pw_or1 (pt_cmpR op_isN (pv 3) pe_non (nomark _))))) pe_non (pe_tup (pa_cons (pv 2) (pa_cons (pe_ix ix_list (pv 1) pe_int (fun _ _ => rfl)) (pa_cons (pv 3) pa_nil)))))))))), ?_⟩
  rintro Rs q ⟨r, rfl, hw, hq⟩
  rw [outF_eq]
  try dsimp only [cxOf, Cx.nox, Cx.wish]
  show ML.ex 0 _ [some (dat K (.str (lineS r))), none, none, none] _
  have hl := line_len hw
  obtain ⟨⟨h1, h2⟩, hlb, h3, h4⟩ := id hw
  have hlb8 := (label_len hlb).2
  k_dat 0 "ml"
  · decide +kernel
  · exact le_line (by omega)
  rw [show (" " : Str) = spS from rfl, line_split hw]
  k_dat 0 "ml"
  apply x_if
  k_dat 0 "ml"
  refine ⟨fun h => by simp [wordsS] at h, fun _ => ?_⟩
  k_dat 0 "ml"
  refine op_ixL (.slotL rfl) .val (d := .str r.2.1) rfl ?_
  k_dat 0 "ml"
  refine c_zero [_] ⟨r.2.1, rfl, by omega, ?_⟩
  rw [hlb]
  k_dat 0 "ml"
  refine ⟨fun h => Bool.noConfusion h, fun _ => ?_⟩
  obtain ⟨s, l, tg⟩ := r
  dsimp only at h1 h2 h3 h4 hlb
  obtain ⟨s, rfl⟩ := Int.eq_ofNat_of_zero_le h1
  have hn : s < 10 ^ 6 := by omega
  k_dat 0 "ml"
  refine op_ixL (.slotL rfl) .val (d := .str (numN s)) rfl ?_
  k_dat 0 "ml"
  refine c_zero [_] ⟨s, rfl, hn, ?_⟩
  k_dat 0 "ml"
  refine op_ixL (.slotL rfl) .val (d := .str (tgtS tg)) rfl ?_
  k_dat 0 "ml"
  rcases Int.lt_or_le tg 0 with c | c
  · obtain rfl : tg = -1 := by omega
    have e : tgtS (-1) = endS := if_pos (by decide)
    rw [e]
    refine ⟨fun _ => ?_, fun h => by simp at h⟩
    k_dat 0 "ml"
    refine ⟨fun h => Bool.noConfusion h, fun _ => ?_⟩
    k_dat 0 "ml"
    refine ⟨fun h => Bool.noConfusion h, fun _ => ?_⟩
    k_dat 0 "ml"
    refine op_ixL (.slotL rfl) .val (d := .str l) rfl ?_
    k_dat 0 "ml"
    exact ⟨_, [], ret_val rfl, hq⟩
  · obtain ⟨g, rfl⟩ := Int.eq_ofNat_of_zero_le c
    have e : tgtS ((g : Nat) : Int) = numN g := if_neg (by omega)
    have ne : numN g ≠ endS := fun z => by
      have := congrArg tl z
      rw [tl_numN, tl_endS] at this
      have := num_sign (n := g) (c := 101) (by rw [this]; simp)
      omega
    rw [e]
    refine ⟨fun h => absurd (of_decide_eq_true h) ne, fun _ => ?_⟩
    k_dat 0 "ml"
    refine op_ixL (.slotL rfl) .val (d := .str (numN g)) (by show some (PyData.str (tgtS _)) = _; rw [e]) ?_
    k_dat 0 "ml"
    refine c_zero [_] ⟨g, rfl, by omega, ?_⟩
    k_dat 0 "ml"
    refine ⟨fun h => Bool.noConfusion h, fun _ => ?_⟩
    k_dat 0 "ml"
    refine ⟨fun h => Bool.noConfusion h, fun _ => ?_⟩
    k_dat 0 "ml"
    refine op_ixL (.slotL rfl) .val (d := .str l) rfl ?_
    k_dat 0 "ml"
    exact ⟨_, [], ret_val rfl, hq⟩
end
end K24

/-! Chart.__str__, Chart.read. -/
namespace K24
open PySem L2 KS GL LB K24m ML
open CH (outs sucs ChC ChartAt cf cf_arrows cf_states cf_no ChartOk spInit arrowB labelB)
open PySem.Spec hiding Row
open PyProof.Rows hiding cnt
open TL (tl numL)
theorem cat_head (n : Nat) : Str.empty ++ stS ++ " " ++ (toString ((n : Nat) : Int) : Str) = headS n := by
  refine TL.ext_tl ?_
  rw [TL.tl_append, TL.tl_append, TL.tl_append, tl_head, tl_stS, show tl Str.empty = [] by decide +kernel, show tl (" " : Str) = [32] by decide +kernel, TL.tl_num]
  rfl
theorem cat_line (r : Row) (y : Str) (hy : y = tgtS r.2.2) : Str.empty ++ (toString r.1 : Str) ++ " " ++ r.2.1 ++ " " ++ y = lineS r := by
  subst hy
  refine TL.ext_tl ?_
  rw [TL.tl_append, TL.tl_append, TL.tl_append, TL.tl_append, TL.tl_append, tl_line, show tl Str.empty = [] by decide +kernel, show tl (" " : Str) = [32] by decide +kernel]
  unfold numS
  simp
theorem log_ok {i : Int} (h1 : -1 ≤ i) (h2 : i < 10 ^ 6) : i.natAbs.log2 < 1920 := by
  have h : i.natAbs < 2 ^ 1920 := Nat.lt_of_lt_of_le (show i.natAbs < 10 ^ 6 by omega) (by decide +kernel)
  rcases Nat.eq_zero_or_pos i.natAbs with e | e
  · rw [e]
    decide
  · exact (Nat.log2_lt (Nat.ne_of_gt e)).mpr h
theorem emp_len {y : Str} {k : Nat} (h : y.length ≤ k) : (Str.empty ++ y).length ≤ k := by
  rw [TL.len_tl, TL.tl_append, show tl Str.empty = [] by decide +kernel, List.nil_append, ← TL.len_tl]
  exact h
theorem app_len {x y : Str} {a b : Nat} (h1 : x.length ≤ a) (h2 : y.length ≤ b) : (x ++ y).length ≤ a + b := by
  rw [TL.len_tl] at *
  rw [TL.tl_append, List.length_append]
  omega
section
variable {P : Program} {w : World} {K : PySem.W.Frag} {mg : Str → Option Value} {base : Heap}
set_option hygiene false
local macro_rules | `(tactic| k_dat 0 "rd") => `(tactic| first | with_reducible apply rd.val | with_reducible apply rd.own | (apply rd.slot; apply Eq.refl) | (apply rd.slotL; apply Eq.refl))
local macro_rules | `(tactic| k_dat 0 "rdS") => `(tactic| first | with_reducible (apply rdS.l; apply rd.val) | with_reducible (apply rdS.t; apply rd.val) | with_reducible (apply rdS.l; apply rd.own) | (apply rdS.l; apply rd.slotL; apply Eq.refl) | (apply rdS.l; apply rd.slot; apply Eq.refl) | (apply rdS.t; apply rd.slot; apply Eq.refl))
local macro_rules | `(tactic| k_dat 0 "rdD") => `(tactic| first | with_reducible apply rdD.val | with_reducible apply rdD.own | (apply rdD.slot; apply Eq.refl) | (apply rdD.slotP; apply Eq.refl))
local macro_rules | `(tactic| k_dat 0 "sc") => `(tactic| first | apply Sc.int | apply Sc.bl | apply Sc.str | apply Sc.non)
local macro_rules | `(tactic| k_dat 0 "asD") => `(tactic| first | with_reducible apply asD.val | with_reducible apply asD.own | (apply asD.slot; apply Eq.refl))
local macro_rules | `(tactic| k_dat 0 "asX") => `(tactic| first | with_reducible apply asX.pure | with_reducible apply asX.own | (apply asX.slot; apply Eq.refl) | with_reducible apply asX.keep)
local macro_rules | `(tactic| k_dat 0 "nf") => `(tactic| first | (conv => arg 3; dsimp only [wipeM, List.set, List.map]) | skip)
local macro_rules | `(tactic| k_dat 0 "eq") => `(tactic| first | (dsimp only [wipeM, List.set, List.map]; done) | (dsimp only [wipeM, List.set, List.map]; apply Eq.refl) | apply Eq.refl)
local macro_rules | `(tactic| k_dat 0 "st") => `(tactic| first
  | ((with_reducible apply x_seq); k_dat 0 "nf") | ((with_reducible apply x_parT2); (case hi => omega); (case hj => omega)) | ((with_reducible apply x_asg2); (case hi => omega); (case hj => omega)) | ((with_reducible apply x_asg3); (case hi => omega); (case hj => omega); (case hl => omega)) | ((with_reducible apply x_par4); (case hi => omega); (case hj => omega); (case hk => omega); (case hl => omega)) | ((with_reducible apply x_par2); (case hij => omega); (case hi => omega); (case hj => omega)) | with_reducible first | (apply x_asg; case hl => decide) | apply x_drop | apply x_ret | apply x_next | apply x_break | apply x_cont
  | apply x_dput (K := K) | apply x_putN (K := K) | apply x_retN)
local macro_rules | `(tactic| k_dat 0 "ex") => `(tactic| with_reducible first
  | apply ev_int (K := K) | apply ev_str (K := K) | apply ev_bl (K := K) | apply ev_non (K := K)
  | apply ev_tup (K := K) | apply ev_lst (K := K) | apply ev_op | apply ev_un | apply ev_sset_rows (K := K) | apply ev_sset_ints (K := K) | apply ev_cb1 | apply ev_cb2 | apply ev_andV (K := K) | apply ev_orV (K := K) | apply ev_notV (K := K) | apply ev_if
  | apply ev_sl | apply evO_none | apply evO_some (K := K) | apply ev_rev | apply ev_bm1 | apply ev_bm0 | apply ev_dnew (K := K) | apply ev_disp (K := K) | apply ev_dget1 (K := K) | apply ev_dget2 (K := K) | apply ev_dinI (K := K) | apply ev_dninI (K := K) | apply ev_chainI (K := K)
  | apply ev_call | apply ev_call1
  | apply evD_nil | apply evD_cons | apply evA_nil | apply evA_x (K := K) | apply evPs_nil | apply evPs_cons
  | apply ev_dispN (K := K) | apply evPsN_nil | apply evPsN_cons | apply ev_ninN (K := K) | apply ev_ninR (K := K) | apply ev_dcR (K := K)
  | apply evT_val (K := K) | apply evT_B (K := K) | apply evT_and | apply evT_or | apply evT_not | apply evT_yes)
local macro_rules | `(tactic| k_dat 0 "vr") => `(tactic| first
  | ((with_reducible apply ev_var); (case h => apply Eq.refl)) | ((with_reducible apply ev_at); (case h => apply Eq.refl))
  | ((with_reducible apply x_augI); (case hi => decide); (case h0 => apply Eq.refl)))
local macro_rules | `(tactic| k_dat 0 "tg") => `(tactic| first
  | (with_reducible apply tg_name) | ((with_reducible apply tg_move); (case h => apply Eq.refl)) | ((with_reducible apply tg_tup); (case hn => rfl)) | (with_reducible apply tg_row) | (with_reducible apply tgs_nil) | (with_reducible apply tgs_consN))
local macro_rules | `(tactic| k_dat 0 "len") => `(tactic| ((first | apply lt_line | apply le_line); (try simp only [List.length_map, List.length_append, List.length_cons, List.length_nil, List.length_range]); omega))
local macro_rules | `(tactic| k_dat 0 "op") => `(tactic| first
  | ((with_reducible apply op_i0 (K := K)); (case h1 => k_dat 0 "rd"); (case h2 => k_dat 0 "rd"); (case hd => k_dat 0 "sc"))
  | ((with_reducible apply op_eqI (K := K)); (case h1 => k_dat 0 "rd"); (case h2 => k_dat 0 "rd")) | ((with_reducible apply op_neI (K := K)); (case h1 => k_dat 0 "rd"); (case h2 => k_dat 0 "rd"))
  | ((with_reducible apply op_eqS (K := K)); (case h1 => k_dat 0 "rd"); (case h2 => k_dat 0 "rd")) | ((with_reducible apply op_neS (K := K)); (case h1 => k_dat 0 "rd"); (case h2 => k_dat 0 "rd"))
  | ((with_reducible apply op_ixR0 (K := K)); (case h1 => k_dat 0 "rd"); (case h2 => k_dat 0 "rd")) | ((with_reducible apply op_ixR1 (K := K)); (case h1 => k_dat 0 "rd"); (case h2 => k_dat 0 "rd")) | ((with_reducible apply op_ixR2 (K := K)); (case h1 => k_dat 0 "rd"); (case h2 => k_dat 0 "rd"))
  | ((with_reducible apply un_i (K := K)); (case h1 => k_dat 0 "rd"); (case hd => k_dat 0 "sc"))
  | ((with_reducible apply un_len (K := K)); (case h => k_dat 0 "rdS")) | ((with_reducible apply un_list (K := K)); (case h => k_dat 0 "rdS")) | ((with_reducible apply un_tuple (K := K)); (case h => first | (apply rdS.l; k_dat 0 "rd") | (apply rdS.t; k_dat 0 "rd")))
  | ((with_reducible apply un_int (K := K)); (case h => k_dat 0 "rd")) | ((with_reducible apply un_lenD (K := K)); (case h => k_dat 0 "rdD")) | ((with_reducible apply un_listK (K := K)); (case h => k_dat 0 "rdD"))
  | ((with_reducible apply op_append (K := K)); (case hd => k_dat 0 "asD"); (case e => apply Eq.refl); (case hl => k_dat 0 "len"))
  | ((with_reducible apply op_cat_ (K := K)); (case h1 => k_dat 0 "rd"); (case h2 => k_dat 0 "rd"); (case hl => k_dat 0 "len"))
  | ((with_reducible apply op_max2 (K := K)); (case h1 => k_dat 0 "rd"); (case h2 => k_dat 0 "rd")) | ((with_reducible apply op_min2 (K := K)); (case h1 => k_dat 0 "rd"); (case h2 => k_dat 0 "rd"))
  | ((with_reducible apply sl_list_ (K := K)); (case h1 => k_dat 0 "rd")) | ((with_reducible apply sl_tup_ (K := K)); (case h1 => k_dat 0 "rd")))
local macro_rules | `(tactic| k_dat 0 "sp") => `(tactic| first
  | ((with_reducible (apply Exists.intro; apply And.intro)); (case left => with_reducible apply Eq.refl))
  | ((with_reducible (apply Exists.intro; apply And.intro)); (case left => first | k_dat 0 "rd" | k_dat 0 "rdD"))
  | ((with_reducible apply And.intro); (case left => (with_reducible apply Exists.intro); k_dat 0 "rdD"))
  | ((with_reducible (apply Exists.intro; apply Exists.intro; apply And.intro)); (case left => first | k_dat 0 "asD" | k_dat 0 "asX"))
  | ((with_reducible apply And.intro); (case left => apply len_le; apply Eq.refl))
  | ((with_reducible (apply Exists.intro (Sum.inl _); apply And.intro)); (case left => apply Eq.refl)) | ((with_reducible (apply Exists.intro (Sum.inr _); apply And.intro)); (case left => apply Eq.refl)))
local macro_rules | `(tactic| k_dat 0 "wk") => `(tactic| with_reducible first | apply x_forD (K := K) | apply x_lc (K := K) | apply wkD_list | apply wkD_tup | apply wkD_seq | apply wkD_rng1 | apply wkD_rng2 | apply wkD_str)
local macro_rules | `(tactic| k_dat 0 "ml1") => `(tactic| first | k_dat 0 "st" | k_dat 0 "ex" | k_dat 0 "wk" | k_dat 0 "vr" | k_dat 0 "tg" | k_dat 0 "op" | k_dat 0 "sp")
local macro_rules | `(tactic| k_dat 0 "ml") => `(tactic| repeat k_dat 0 "ml1")
local macro_rules | `(tactic| k_dat 0 "tx") => `(tactic| first
  | ((with_reducible apply op_inSign (K := K)); (case h1 => k_dat 0 "rd"); (case h2 => k_dat 0 "rd"))
  | ((with_reducible apply op_addS (K := K)); (case h1 => k_dat 0 "rd"); (case h2 => k_dat 0 "rd"))
  | ((with_reducible apply op_isN_ (K := K)); (case h1 => k_dat 0 "rd"); (case h2 => k_dat 0 "rd"))
  | ((with_reducible apply op_notN_ (K := K)); (case h1 => k_dat 0 "rd"); (case h2 => k_dat 0 "rd"))
  | ((with_reducible apply un_strI (K := K)); (case h => k_dat 0 "rd"))
  | ((with_reducible apply op_join_ (K := K)); (case h1 => k_dat 0 "rd"))
  | ((with_reducible apply op_split_ (K := K)); (case h1 => k_dat 0 "rd"); (case h2 => k_dat 0 "rd"))
  | with_reducible apply ev_m1 (K := K) | with_reducible apply ev_js (K := K) | with_reducible apply evJ_cons (K := K) | with_reducible apply evJ_nil)
local macro_rules | `(tactic| k_dat 0 "ml1") => `(tactic| first | k_dat 0 "st" | k_dat 0 "ex" | k_dat 0 "wk" | k_dat 0 "vr" | k_dat 0 "tg" | k_dat 0 "op" | k_dat 0 "sp" | k_dat 0 "tx")
def strM (K : PySem.W.Frag) (C : Addr) : MSp := fun Rs q => ∃ (n : Nat) (R : List Row), Rs = [pu (chartP K C n R)] ∧ n < 10 ^ 6 ∧ R.length ≤ 1000 ∧ (∀ r ∈ R, WOk r) ∧ q (dat K (.str (textS n R))) []
theorem scMStr : FnScope ["self", "lines", "source", "label", "target"] ["self"] (defScope CH.sMStr) := ⟨rfl, rfl, rfl, by decide +kernel, rfl, by decide +kernel, by decide +kernel⟩
theorem ok_str {f C : Addr} {fd : FuncData} (G : Fun K "__str__" "Chart.__str__" CH.sMStr f fd) (CC : ChC K mg C) (gE : ∃ u, mg CH.nEND = some u ∧ RelV (.int (-1)) u) (gW : ∃ u, mg "END_WORD" = some u ∧ RelV (.str endS) u) (gS : ∃ u, mg "STATES_WORD" = some u ∧ RelV (.str stS) u) :
    FnG P w K mg base CX0 1 f fd ["self"] (spOf 0 (strM K C)) := by
  refine fn_ml G scMStr (fun Rs q ⟨_, _, h, _⟩ => by rw [h]; rfl) (by decide) fun cdv A outer s H E hrG => ?_
  have hr := hrG.room
  obtain ⟨uEnd, gEnd, rEnd⟩ := gE
  obtain ⟨uEw, gEw, rEw⟩ := gW
  obtain ⟨uSt, gSt, rSt⟩ := gS
  refine ⟨_, (pss_cons (ps_set (i := 1) scMStr.nd rfl (Or.inl rfl) (pe_lst (pa_cons (pe_joined (.cons (pe_fmt (pe_glob rfl gSt rSt)) (.cons pe_str (.cons (pe_fmt (pe_fld (pv 0) rfl)) .nil)))) pa_nil)))
  (pss_cons (ps_for PassesOwn.never rfl (pi_tup (pe_fld (pv 0) rfl)) (pg_tup (n := 3) rfl (pgs_cons (pg_name (i := 2) scMStr.nd rfl (Or.inl rfl)) (pgs_cons (pg_name (i := 3) scMStr.nd rfl (Or.inl rfl)) (pgs_cons (pg_name (i := 4) scMStr.nd rfl (Or.inl rfl)) pgs_nil))))
    (pss_one (ps_expr (pe_bm PySem.F.plainAttrs_list PySem.F.slot_list_append PySem.F.type_list_append mt_append (pv 1) (pa_cons (pe_joined (.cons (pe_fmt (pv 2)) (.cons pe_str (.cons (pe_fmt (pv 3)) (.cons pe_str (.cons (pe_fmt (pe_ifExp (pt_cmpR op_eq (pv 4) (pe_glob rfl gEnd rEnd) (nomark _)) (pe_glob rfl gEw rEw) (pv 4))) .nil)))))) pa_nil)))))
  (pss_one (ps_ret (pe_join pe_str (pv 1)))))), ?_⟩
  rintro Rs q ⟨n, R, rfl, hn, hl, hR, hq⟩
  rw [outF_eq]
  try dsimp only [cxOf, Cx.nox, Cx.wish]
  show ML.ex 0 _ [some (pu (chartP K C n R)), none, none, none, none] _
  have e6 : stS.length = 6 := by rw [TL.len_tl, tl_stS]; rfl
  have e1 : (" " : Str).length = 1 := by decide +kernel
  have hnl := numN_len hn
  have hA : (Str.empty ++ stS).length ≤ 6 := emp_len (Nat.le_of_eq e6)
  have hB : (Str.empty ++ stS ++ " ").length ≤ 6 + 1 := app_len hA (Nat.le_of_eq e1)
  have hC : (Str.empty ++ stS ++ " " ++ (toString (n : Int) : Str)).length ≤ 6 + 1 + 6 := app_len hB hnl
  k_dat 0 "ml"
  refine ev_fmtS (K := K) (y := stS) ?_
  k_dat 0 "ml"
  refine ⟨rd.val, le_line (by omega), ?_⟩
  k_dat 0 "ml"
  refine ⟨le_line (Nat.le_trans hA (by decide)), ?_⟩
  k_dat 0 "ml"
  refine ⟨le_line (Nat.le_trans hB (by decide)), ?_⟩
  k_dat 0 "ml"
  refine ev_fmtI (K := K) (i := (n : Int)) ?_
  refine ev_states CC rfl ?_
  refine ⟨rd.val, log_ok (by omega) (by omega), ?_⟩
  k_dat 0 "ml"
  refine ⟨le_line (Nat.le_trans hC (by decide)), ?_⟩
  k_dat 0 "ml"
  rw [cat_head n]
  refine ev_arrows CC rfl ?_
  k_dat 0 "ml"
  refine for_pre R rowD rfl (fun pre ρ' => ∃ (x2 x3 x4 : Option Res), ρ' = [some (pu (chartP K C n R)), some (ML.lo K ((headS n :: pre.map lineS).map .str)), x2, x3, x4]) ⟨none, none, none, rfl⟩ ?_ ?_
  · rintro pre r post ρ' epre ⟨x2, x3, x4, rfl⟩
    have hw := hR r (by rw [epre]; exact List.mem_append_right _ List.mem_cons_self)
    have hpl : pre.length ≤ 1000 := by
      have := congrArg List.length epre
      rw [List.length_append] at this
      omega
    obtain ⟨⟨h1, h2⟩, hlb, h3, h4⟩ := id hw
    have k1 := src_len hw
    have k2 := (label_len hlb).2
    have k3 := tgt_len hw
    have gA : (Str.empty ++ (toString r.1 : Str)).length ≤ 6 := emp_len k1
    have gB : (Str.empty ++ (toString r.1 : Str) ++ " ").length ≤ 6 + 1 := app_len gA (Nat.le_of_eq e1)
    have gC : (Str.empty ++ (toString r.1 : Str) ++ " " ++ r.2.1).length ≤ 6 + 1 + 8 := app_len gB k2
    have gD : (Str.empty ++ (toString r.1 : Str) ++ " " ++ r.2.1 ++ " ").length ≤ 6 + 1 + 8 + 1 := app_len gC (Nat.le_of_eq e1)
    have gE : (Str.empty ++ (toString r.1 : Str) ++ " " ++ r.2.1 ++ " " ++ tgtS r.2.2).length ≤ 6 + 1 + 8 + 1 + 6 := app_len gD k3
    refine ⟨[2, 3, 4], by decide, ?_⟩
    k_dat 0 "ml"
    refine ev_fmtI (K := K) (i := r.1) ?_
    k_dat 0 "ml"
    refine ⟨rd.val, log_ok (by omega) h2, ?_⟩
    k_dat 0 "ml"
    refine ⟨le_line (Nat.le_trans gA (by decide)), ?_⟩
    k_dat 0 "ml"
    refine ⟨le_line (Nat.le_trans gB (by decide)), ?_⟩
    k_dat 0 "ml"
    refine ev_fmtS (K := K) (y := r.2.1) ?_
    k_dat 0 "ml"
    refine ⟨rd.val, le_line (by omega), ?_⟩
    k_dat 0 "ml"
    refine ⟨le_line (Nat.le_trans gC (by decide)), ?_⟩
    k_dat 0 "ml"
    refine ⟨le_line (Nat.le_trans gD (by decide)), ?_⟩
    k_dat 0 "ml"
    refine ev_fmt (K := K) (y := tgtS r.2.2) ?_
    refine ev_if (evT_mono (Qb := fun b ρ' => b = decide (r.2.2 = -1) ∧ ρ' = [some (pu (chartP K C n R)), some (ML.lo K ((headS n :: pre.map lineS).map .str)), some (dat K (.int r.1)), some (dat K (.str r.2.1)), some (dat K (.int r.2.2))]) ?_ ?_)
    · k_dat 0 "ml"
      exact ⟨rfl, by k_dat 0 "eq"⟩
    · rintro b ρ' ⟨rfl, rfl⟩
      cases hd : decide (r.2.2 = -1)
      · refine ⟨fun h => Bool.noConfusion h, fun _ => ?_⟩
        have hne := of_decide_eq_false hd
        have et : tgtS r.2.2 = (toString r.2.2 : Str) := if_neg (by omega)
        k_dat 0 "ml"
        refine ⟨.inr ⟨r.2.2, by k_dat 0 "rd", log_ok h3 h4, et⟩, tgtS r.2.2, rfl, le_line (Nat.le_trans gE (by decide)), evJ_nil ?_⟩
        rw [cat_line r _ rfl]
        k_dat 0 "ml"
        rw [show (headS n :: pre.map lineS).map PyData.str ++ [PyData.str (lineS r)] = (headS n :: (pre ++ [r]).map lineS).map PyData.str by simp]
        exact ⟨_, _, _, rfl⟩
      · refine ⟨fun _ => ?_, fun h => Bool.noConfusion h⟩
        have he := of_decide_eq_true hd
        have et : endS = tgtS r.2.2 := (if_pos (by omega)).symm
        k_dat 0 "ml"
        refine ⟨.inl ⟨by rw [← et]; k_dat 0 "rd", ?_⟩, tgtS r.2.2, rfl, le_line (Nat.le_trans gE (by decide)), evJ_nil ?_⟩
        · exact le_line (Nat.le_trans k3 (by decide))
        rw [cat_line r _ rfl]
        k_dat 0 "ml"
        rw [show (headS n :: pre.map lineS).map PyData.str ++ [PyData.str (lineS r)] = (headS n :: (pre ++ [r]).map lineS).map PyData.str by simp]
        exact ⟨_, _, _, rfl⟩
  · rintro ρ' ⟨x2, x3, x4, rfl⟩
    have hs := lines_sum hn hR
    k_dat 0 "ml"
    · show rdS K _ _ ((headS n :: R.map lineS).map PyData.str)
      exact rdS.l (rd.slotL rfl)
    · exact Nat.le_trans hs (by omega)
    · exact ⟨_, [], ret_val rfl, hq⟩
end
end K24

/-! Chart.read. -/
namespace K24
open PySem L2 KS GL LB K24m ML
open CH (outs sucs ChC ChartAt cf cf_arrows cf_states cf_no ChartOk spInit arrowB labelB ps_dead)
open PySem.Spec hiding Row
open PyProof.Rows hiding cnt
open TL (tl numL)
/-- the class itself -/
def clsP (C : Addr) : Pd := ⟨fun _ v => v = .ref C, fun h _ => h⟩
theorem ev_makeL {K : PySem.W.Frag} {ρ : MS} {Q : Rt → MS → Prop} {C : Addr} {i : Nat} {sp : Sp} {ta : TA} (h0 : ρ[i]? = some (some (pu (clsP C)))) (h : ev (tMake C sp [] E0 ta) ρ Q) : ev (tMakeL C i sp ta) ρ Q := by
  intro σ H0 H G k S hk
  obtain ⟨v, f, e, ⟨hv, _⟩, _⟩ := S.get h0
  obtain rfl : v = .ref C := hv
  exact ⟨e, h σ H0 H G k S hk⟩
theorem ev_isi_str {K : PySem.W.Frag} {ρ : MS} {Q : Rt → MS → Prop} {i : Nat} {z : Str} (h : ρ[i]? = some (some (dat K (.str z)))) (q : Q (.val (dat K (.bool true))) ρ) : ev (tCB (rIsi K) (tCons (tVar i) (tCons (tC (.ty "str")) tNil))) ρ Q := by
  intro σ H0 H G k S hk
  obtain ⟨v, f, e, ⟨hv, _⟩, _⟩ := S.get h
  cases hv
  exact CH.v_isi_str e (hk _ _ _ _ _ _ q (post_pure S (.bl true)))
theorem cutA_tail {α : Type} (x : α) (l : List α) : cutA (x :: l) (some 1) none = l := by
  unfold cutA
  rw [show (some 1 : Option Int) = some ((1 : Nat) : Int) from rfl, HT.sIx_nat, HT.sIx_none, List.length_cons, Nat.min_eq_left (Nat.succ_le_succ (Nat.zero_le _))]
  show l.take (l.length + 1 - 1) = l
  rw [Nat.add_sub_cancel]
  exact List.take_length
theorem wok_lbl {r : Row} (h : WOk r) : Lbl r := by
  have hs : PyData.strOk r.2.1 = true := by
    unfold PyData.strOk
    rw [Array.all_eq_true_iff_forall_mem]
    intro c hc
    have := label_sign h.2.1 (c := c) (Array.mem_toList_iff.mpr hc)
    exact decide_eq_true (by omega)
  exact ⟨(label_len h.2.1).2, hs⟩
theorem shaped_told (n : Int) {R : List Row} (h : ∀ r ∈ R, Lbl r) : SeqAt.shaped (.list (.int n :: R.map rowD)) = true := by
  unfold SeqAt.shaped
  have h2 := depth_rowsL R
  rw [PyData.canLay0, PyData.depth, PyData.canLayAll0, PyData.depthAll, lay_rowsL R h, PyData.canLay0, PyData.depth, Bool.true_and, Bool.true_and, decide_eq_true_eq]
  omega
theorem any_none (n : Int) : ∀ R : List Row, ((PyData.int n :: R.map rowD).any fun y => PyData.eqv y .none) = false := by
  intro R
  rw [List.any_eq_false]
  intro x hx
  rcases List.mem_cons.mp hx with rfl | hx
  · simp [PyData.eqv]
  · obtain ⟨r, _, rfl⟩ := List.mem_map.mp hx
    simp [PyData.eqv, rowD]
theorem hu65_of {k : Nat} {A : Around} (r : Room k A) : A.units + 65 < cLine := by
  have := r.un
  omega
section
variable {P : Program} {w : World} {K : PySem.W.Frag} {mg : Str → Option Value} {base : Heap}
set_option hygiene false
local macro_rules | `(tactic| k_dat 0 "rd") => `(tactic| first | with_reducible apply rd.val | with_reducible apply rd.own | (apply rd.slot; apply Eq.refl) | (apply rd.slotL; apply Eq.refl))
local macro_rules | `(tactic| k_dat 0 "rdS") => `(tactic| first | with_reducible (apply rdS.l; apply rd.val) | with_reducible (apply rdS.t; apply rd.val) | with_reducible (apply rdS.l; apply rd.own) | (apply rdS.l; apply rd.slotL; apply Eq.refl) | (apply rdS.l; apply rd.slot; apply Eq.refl) | (apply rdS.t; apply rd.slot; apply Eq.refl))
local macro_rules | `(tactic| k_dat 0 "rdD") => `(tactic| first | with_reducible apply rdD.val | with_reducible apply rdD.own | (apply rdD.slot; apply Eq.refl) | (apply rdD.slotP; apply Eq.refl))
local macro_rules | `(tactic| k_dat 0 "sc") => `(tactic| first | apply Sc.int | apply Sc.bl | apply Sc.str | apply Sc.non)
local macro_rules | `(tactic| k_dat 0 "asD") => `(tactic| first | with_reducible apply asD.val | with_reducible apply asD.own | (apply asD.slot; apply Eq.refl))
local macro_rules | `(tactic| k_dat 0 "asX") => `(tactic| first | with_reducible apply asX.pure | with_reducible apply asX.own | (apply asX.slot; apply Eq.refl) | with_reducible apply asX.keep)
local macro_rules | `(tactic| k_dat 0 "nf") => `(tactic| first | (conv => arg 3; dsimp only [wipeM, List.set, List.map]) | skip)
local macro_rules | `(tactic| k_dat 0 "eq") => `(tactic| first | (dsimp only [wipeM, List.set, List.map]; done) | (dsimp only [wipeM, List.set, List.map]; apply Eq.refl) | apply Eq.refl)
local macro_rules | `(tactic| k_dat 0 "st") => `(tactic| first
  | ((with_reducible apply x_seq); k_dat 0 "nf") | ((with_reducible apply x_parT2); (case hi => omega); (case hj => omega)) | ((with_reducible apply x_asg2); (case hi => omega); (case hj => omega)) | ((with_reducible apply x_asg3); (case hi => omega); (case hj => omega); (case hl => omega)) | ((with_reducible apply x_par4); (case hi => omega); (case hj => omega); (case hk => omega); (case hl => omega)) | ((with_reducible apply x_par2); (case hij => omega); (case hi => omega); (case hj => omega)) | with_reducible first | (apply x_asg; case hl => decide) | apply x_drop | apply x_ret | apply x_next | apply x_break | apply x_cont
  | apply x_dput (K := K) | apply x_putN (K := K) | apply x_retN)
local macro_rules | `(tactic| k_dat 0 "ex") => `(tactic| with_reducible first
  | apply ev_int (K := K) | apply ev_str (K := K) | apply ev_bl (K := K) | apply ev_non (K := K)
  | apply ev_tup (K := K) | apply ev_lst (K := K) | apply ev_op | apply ev_un | apply ev_sset_rows (K := K) | apply ev_sset_ints (K := K) | apply ev_cb1 | apply ev_cb2 | apply ev_andV (K := K) | apply ev_orV (K := K) | apply ev_notV (K := K) | apply ev_if
  | apply ev_sl | apply evO_none | apply evO_some (K := K) | apply ev_rev | apply ev_bm1 | apply ev_bm0 | apply ev_dnew (K := K) | apply ev_disp (K := K) | apply ev_dget1 (K := K) | apply ev_dget2 (K := K) | apply ev_dinI (K := K) | apply ev_dninI (K := K) | apply ev_chainI (K := K)
  | apply ev_call | apply ev_call1
  | apply evD_nil | apply evD_cons | apply evA_nil | apply evA_x (K := K) | apply evPs_nil | apply evPs_cons
  | apply ev_dispN (K := K) | apply evPsN_nil | apply evPsN_cons | apply ev_ninN (K := K) | apply ev_ninR (K := K) | apply ev_dcR (K := K)
  | apply evT_val (K := K) | apply evT_B (K := K) | apply evT_and | apply evT_or | apply evT_not | apply evT_yes)
local macro_rules | `(tactic| k_dat 0 "vr") => `(tactic| first
  | ((with_reducible apply ev_var); (case h => apply Eq.refl)) | ((with_reducible apply ev_at); (case h => apply Eq.refl))
  | ((with_reducible apply x_augI); (case hi => decide); (case h0 => apply Eq.refl)))
local macro_rules | `(tactic| k_dat 0 "tg") => `(tactic| first
  | (with_reducible apply tg_name) | ((with_reducible apply tg_move); (case h => apply Eq.refl)) | ((with_reducible apply tg_tup); (case hn => rfl)) | (with_reducible apply tg_row) | (with_reducible apply tgs_nil) | (with_reducible apply tgs_consN))
local macro_rules | `(tactic| k_dat 0 "len") => `(tactic| ((first | apply lt_line | apply le_line); (try simp only [List.length_map, List.length_append, List.length_cons, List.length_nil, List.length_range]); omega))
local macro_rules | `(tactic| k_dat 0 "op") => `(tactic| first
  | ((with_reducible apply op_i0 (K := K)); (case h1 => k_dat 0 "rd"); (case h2 => k_dat 0 "rd"); (case hd => k_dat 0 "sc"))
  | ((with_reducible apply op_eqI (K := K)); (case h1 => k_dat 0 "rd"); (case h2 => k_dat 0 "rd")) | ((with_reducible apply op_neI (K := K)); (case h1 => k_dat 0 "rd"); (case h2 => k_dat 0 "rd"))
  | ((with_reducible apply op_eqS (K := K)); (case h1 => k_dat 0 "rd"); (case h2 => k_dat 0 "rd")) | ((with_reducible apply op_neS (K := K)); (case h1 => k_dat 0 "rd"); (case h2 => k_dat 0 "rd"))
  | ((with_reducible apply op_ixR0 (K := K)); (case h1 => k_dat 0 "rd"); (case h2 => k_dat 0 "rd")) | ((with_reducible apply op_ixR1 (K := K)); (case h1 => k_dat 0 "rd"); (case h2 => k_dat 0 "rd")) | ((with_reducible apply op_ixR2 (K := K)); (case h1 => k_dat 0 "rd"); (case h2 => k_dat 0 "rd"))
  | ((with_reducible apply un_i (K := K)); (case h1 => k_dat 0 "rd"); (case hd => k_dat 0 "sc"))
  | ((with_reducible apply un_len (K := K)); (case h => k_dat 0 "rdS")) | ((with_reducible apply un_list (K := K)); (case h => k_dat 0 "rdS")) | ((with_reducible apply un_tuple (K := K)); (case h => first | (apply rdS.l; k_dat 0 "rd") | (apply rdS.t; k_dat 0 "rd")))
  | ((with_reducible apply un_int (K := K)); (case h => k_dat 0 "rd")) | ((with_reducible apply un_lenD (K := K)); (case h => k_dat 0 "rdD")) | ((with_reducible apply un_listK (K := K)); (case h => k_dat 0 "rdD"))
  | ((with_reducible apply op_append (K := K)); (case hd => k_dat 0 "asD"); (case e => apply Eq.refl); (case hl => k_dat 0 "len"))
  | ((with_reducible apply op_cat_ (K := K)); (case h1 => k_dat 0 "rd"); (case h2 => k_dat 0 "rd"); (case hl => k_dat 0 "len"))
  | ((with_reducible apply op_max2 (K := K)); (case h1 => k_dat 0 "rd"); (case h2 => k_dat 0 "rd")) | ((with_reducible apply op_min2 (K := K)); (case h1 => k_dat 0 "rd"); (case h2 => k_dat 0 "rd"))
  | ((with_reducible apply sl_list_ (K := K)); (case h1 => k_dat 0 "rd")) | ((with_reducible apply sl_tup_ (K := K)); (case h1 => k_dat 0 "rd")))
local macro_rules | `(tactic| k_dat 0 "sp") => `(tactic| first
  | ((with_reducible (apply Exists.intro; apply And.intro)); (case left => with_reducible apply Eq.refl))
  | ((with_reducible (apply Exists.intro; apply And.intro)); (case left => first | k_dat 0 "rd" | k_dat 0 "rdD"))
  | ((with_reducible apply And.intro); (case left => (with_reducible apply Exists.intro); k_dat 0 "rdD"))
  | ((with_reducible (apply Exists.intro; apply Exists.intro; apply And.intro)); (case left => first | k_dat 0 "asD" | k_dat 0 "asX"))
  | ((with_reducible apply And.intro); (case left => apply len_le; apply Eq.refl))
  | ((with_reducible (apply Exists.intro (Sum.inl _); apply And.intro)); (case left => apply Eq.refl)) | ((with_reducible (apply Exists.intro (Sum.inr _); apply And.intro)); (case left => apply Eq.refl)))
local macro_rules | `(tactic| k_dat 0 "wk") => `(tactic| with_reducible first | apply x_forD (K := K) | apply x_lc (K := K) | apply wkD_list | apply wkD_tup | apply wkD_seq | apply wkD_rng1 | apply wkD_rng2 | apply wkD_str)
local macro_rules | `(tactic| k_dat 0 "ml1") => `(tactic| first | k_dat 0 "st" | k_dat 0 "ex" | k_dat 0 "wk" | k_dat 0 "vr" | k_dat 0 "tg" | k_dat 0 "op" | k_dat 0 "sp")
local macro_rules | `(tactic| k_dat 0 "ml") => `(tactic| repeat k_dat 0 "ml1")
local macro_rules | `(tactic| k_dat 0 "tx") => `(tactic| first
  | ((with_reducible apply op_inSign (K := K)); (case h1 => k_dat 0 "rd"); (case h2 => k_dat 0 "rd"))
  | ((with_reducible apply op_addS (K := K)); (case h1 => k_dat 0 "rd"); (case h2 => k_dat 0 "rd"))
  | ((with_reducible apply op_isN_ (K := K)); (case h1 => k_dat 0 "rd"); (case h2 => k_dat 0 "rd"))
  | ((with_reducible apply op_notN_ (K := K)); (case h1 => k_dat 0 "rd"); (case h2 => k_dat 0 "rd"))
  | ((with_reducible apply un_strI (K := K)); (case h => k_dat 0 "rd"))
  | ((with_reducible apply op_join_ (K := K)); (case h1 => k_dat 0 "rd"))
  | ((with_reducible apply op_split_ (K := K)); (case h1 => k_dat 0 "rd"); (case h2 => k_dat 0 "rd"))
  | with_reducible apply ev_m1 (K := K) | with_reducible apply ev_js (K := K) | with_reducible apply evJ_cons (K := K) | with_reducible apply evJ_nil)
local macro_rules | `(tactic| k_dat 0 "ml1") => `(tactic| first | k_dat 0 "st" | k_dat 0 "ex" | k_dat 0 "wk" | k_dat 0 "vr" | k_dat 0 "tg" | k_dat 0 "op" | k_dat 0 "sp" | k_dat 0 "tx")
/-- charts that are written -/
structure TOk (n : Nat) (R : List Row) : Prop where
  ok : ChartOk n R
  n0 : 0 < n
  n6 : n < 10 ^ 6
  len : R.length ≤ 200
  row : ∀ r ∈ R, WOk r
def readM (K : PySem.W.Frag) (C : Addr) : MSp := fun Rs q => ∃ (n : Nat) (R : List Row), Rs = [pu (clsP C), dat K (.str (textS n R))] ∧ TOk n R ∧ q (pu (chartP K C n R)) []
theorem scMRead : FnScope ["cls", "text", "lines", "told", "line", "found"] ["cls", "text"] (defScope CH.sMRead) := ⟨rfl, rfl, rfl, by decide +kernel, rfl, by decide +kernel, by decide +kernel⟩
theorem ok_read {f fI C : Addr} {fd fdI : FuncData} (G : Fun K "read" "Chart.read" CH.sMRead f fd) (T : CH.Blt2 mg) (CM : Mk K C fI) (CI : FnOk P w K mg base CX0 4 fI fdI ["self", "states", "arrows"] (spInit K C)) (CB : Binds K fdI ["self", "states", "arrows"] [])
    (hstates_in : HasM P w K mg base "states_in" 2 ["line"] (S_states_in K)) (harrow_in : HasM P w K mg base "arrow_in" 2 ["line"] (S_arrow_in K)) :
    FnG P w K mg base CX0 6 f fd ["cls", "text"] (spOf 0 (readM K C)) := by
  refine fn_ml G scMRead (fun Rs q ⟨_, _, h, _⟩ => by rw [h]; rfl) (by decide) fun cdv A outer s H E hrG => ?_
  have hr := hrG.room
  have hu := hu_of hr
  have hu64 := hr.units
  have hu65 := hu65_of hr
  have hrI : Room 5 _ := hr.mono (by decide)
  refine ⟨_, (pss_cons (ps_if (pt_not (pt_val (pe_callB call_isi (by rfl) T.b_isinstance (by decide +kernel) (pa_cons (pv 1) (pa_cons (pe_bltn (u := .type "str") (v := .ty "str") rfl T.b_str (by decide +kernel) rfl) pa_nil)))))
    (pss_one ps_dead)
    pss_nil)
  (pss_cons (ps_set (i := 2) scMRead.nd rfl (Or.inl rfl) (pe_split (pv 1) pe_str))
  (pss_cons (ps_set (i := 3) scMRead.nd rfl (Or.inl rfl) (pe_op op_cat (pe_lst (pa_cons (pe_hg hstates_in (hrG.mono (by decide)) rfl (pa_cons (pe_ix ix_list (pv 2) pe_int (fun _ _ => rfl)) pa_nil)) pa_nil)) (pe_lc (own := [("line", 4)]) (g := gName 4) (tt := tYes) (te := (tCall (S_arrow_in K) [] E0 (tCons (tVar 4) tNil))) rfl scMRead.nd (pi_list (pe_slice sl_list (pv 2) (po_some pe_int) po_none)) (blkOk_by (own := [("line", 4)]) (N := ["cls", "text", "lines", "told", "line", "found"]) (sc := defScope CH.sMRead) (by decide +kernel)) (fun _ _ _ _ _ => (pg_name (i := 4) scMRead.nd rfl (by first | exact Or.inl rfl | exact Or.inr rfl))) (fun _ _ _ _ _ => pts_nil) (fun _ _ _ _ _ => (pe_hg harrow_in (hrG.mono (by decide)) rfl (pa_cons (pv 4) pa_nil))))))
  (pss_cons (ps_if (pt_cmpR (op_inD hu65) pe_non (pv 3) (by rfl))
    (pss_one ps_dead)
    pss_nil)
  (pss_cons (ps_try_thru0 (pss_one (ps_set (i := 5) scMRead.nd rfl (Or.inl rfl) (pe_makeL (pv 0) CM CI hrI CB (pa_cons (pe_ix ix_list (pv 3) pe_int (fun _ _ => rfl)) (pa_cons (pe_callTy call_tupQ (by rfl) T.b_tuple (by decide +kernel) (pa_cons (pe_slice sl_list (pv 3) (po_some pe_int) po_none) pa_nil)) pa_nil))))))
  (pss_one (ps_ret (pv 5)))))))), ?_⟩
  rintro Rs q ⟨n, R, rfl, ⟨hok, hn0, hn, hl, hR⟩, hq⟩
  rw [outF_eq]
  try dsimp only [cxOf, Cx.nox, Cx.wish]
  show ML.ex 0 _ [some (pu (clsP C)), some (dat K (.str (textS n R))), none, none, none, none] _
  have ht := text_len hn hR
  refine x_seq (x_if (evT_not (evT_B (ev_isi_str (z := textS n R) rfl ⟨true, rfl, ?_⟩))))
  refine ⟨fun h => Bool.noConfusion h, fun _ => ?_⟩
  k_dat 0 "ml"
  · decide +kernel
  · exact le_line (by omega)
  rw [show ("\n" : Str) = nlS from rfl, text_split hR]
  k_dat 0 "ml"
  refine op_ixL (.slotL rfl) .val (d := .str (headS n)) (atI_nat (j := 0) rfl) ?_
  k_dat 0 "ml"
  refine c_zero [_] ⟨n, rfl, hn0, hn, ?_⟩
  k_dat 0 "ml"
  refine lc_fm R (fun r => PyData.str (lineS r)) (by rw [cutA_tail, List.map_map]; rfl) (by omega) (fun _ => true) rowD (fun r hr => ⟨[4], by decide, ?_⟩) ?_
  · k_dat 0 "ml"
    refine ⟨fun _ => ?_, fun h => Bool.noConfusion h⟩
    k_dat 0 "ml"
    refine c_zero [_] ⟨r, rfl, hR r hr, ?_⟩
    k_dat 0 "ml"
    exact ⟨rfl, rfl, by k_dat 0 "eq"⟩
  rw [List.filter_eq_self.mpr fun _ _ => rfl]
  k_dat 0 "ml"
  apply x_if
  k_dat 0 "ml"
  refine op_inDd (ds := .int n :: R.map rowD) rd.val (.slotL rfl) (by decide +kernel) (shaped_told n fun r hr => wok_lbl (hR r hr)) ?_
  rw [any_none]
  refine ⟨false, rfl, fun h => Bool.noConfusion h, fun _ => ?_⟩
  k_dat 0 "ml"
  refine ev_makeL (K := K) rfl (ev_make (K := K) ?_)
  k_dat 0 "ml"
  refine op_ixL (.slotL rfl) .val (d := .int n) (atI_nat (j := 0) rfl) ?_
  k_dat 0 "ml"
  rw [List.singleton_append, cutA_tail]
  k_dat 0 "ml"
  refine ⟨n, R, rfl, hl, hok, ?_⟩
  k_dat 0 "ml"
  exact ⟨_, [], ret_val rfl, hq⟩
end
end K24

/-! _law_written. -/
namespace K24
open PySem L2 KS GL LB K24m ML
open CH (outs sucs ChC ChartAt cf cf_arrows cf_states cf_no ChartOk spInit arrowB labelB ps_dead)
open PySem.Spec hiding Row
open PyProof.Rows hiding cnt
open TL (tl numL)
theorem words_sum {r : Row} (h : WOk r) : ((wordsS r).map (·.length)).sum + (wordsS r).length * (" " : Str).length ≤ 30 := by
  have h1 := src_len h
  have h2 := (label_len h.2.1).2
  have h3 := tgt_len h
  have e1 : (" " : Str).length = 1 := by decide +kernel
  rw [e1]
  show ((numS r.1).length + (r.2.1.length + ((tgtS r.2.2).length + 0))) + 3 * 1 ≤ 30
  omega
section
variable {P : Program} {w : World} {K : PySem.W.Frag} {mg : Str → Option Value} {base : Heap}
set_option hygiene false
local macro_rules | `(tactic| k_dat 0 "rd") => `(tactic| first | with_reducible apply rd.val | with_reducible apply rd.own | (apply rd.slot; apply Eq.refl) | (apply rd.slotL; apply Eq.refl))
local macro_rules | `(tactic| k_dat 0 "rdS") => `(tactic| first | with_reducible (apply rdS.l; apply rd.val) | with_reducible (apply rdS.t; apply rd.val) | with_reducible (apply rdS.l; apply rd.own) | (apply rdS.l; apply rd.slotL; apply Eq.refl) | (apply rdS.l; apply rd.slot; apply Eq.refl) | (apply rdS.t; apply rd.slot; apply Eq.refl))
local macro_rules | `(tactic| k_dat 0 "rdD") => `(tactic| first | with_reducible apply rdD.val | with_reducible apply rdD.own | (apply rdD.slot; apply Eq.refl) | (apply rdD.slotP; apply Eq.refl))
local macro_rules | `(tactic| k_dat 0 "sc") => `(tactic| first | apply Sc.int | apply Sc.bl | apply Sc.str | apply Sc.non)
local macro_rules | `(tactic| k_dat 0 "asD") => `(tactic| first | with_reducible apply asD.val | with_reducible apply asD.own | (apply asD.slot; apply Eq.refl))
local macro_rules | `(tactic| k_dat 0 "asX") => `(tactic| first | with_reducible apply asX.pure | with_reducible apply asX.own | (apply asX.slot; apply Eq.refl) | with_reducible apply asX.keep)
local macro_rules | `(tactic| k_dat 0 "nf") => `(tactic| first | (conv => arg 3; dsimp only [wipeM, List.set, List.map]) | skip)
local macro_rules | `(tactic| k_dat 0 "eq") => `(tactic| first | (dsimp only [wipeM, List.set, List.map]; done) | (dsimp only [wipeM, List.set, List.map]; apply Eq.refl) | apply Eq.refl)
local macro_rules | `(tactic| k_dat 0 "st") => `(tactic| first
  | ((with_reducible apply x_seq); k_dat 0 "nf") | ((with_reducible apply x_parT2); (case hi => omega); (case hj => omega)) | ((with_reducible apply x_asg2); (case hi => omega); (case hj => omega)) | ((with_reducible apply x_asg3); (case hi => omega); (case hj => omega); (case hl => omega)) | ((with_reducible apply x_par4); (case hi => omega); (case hj => omega); (case hk => omega); (case hl => omega)) | ((with_reducible apply x_par2); (case hij => omega); (case hi => omega); (case hj => omega)) | with_reducible first | (apply x_asg; case hl => decide) | apply x_drop | apply x_ret | apply x_next | apply x_break | apply x_cont
  | apply x_dput (K := K) | apply x_putN (K := K) | apply x_retN)
local macro_rules | `(tactic| k_dat 0 "ex") => `(tactic| with_reducible first
  | apply ev_int (K := K) | apply ev_str (K := K) | apply ev_bl (K := K) | apply ev_non (K := K)
  | apply ev_tup (K := K) | apply ev_lst (K := K) | apply ev_op | apply ev_un | apply ev_sset_rows (K := K) | apply ev_sset_ints (K := K) | apply ev_cb1 | apply ev_cb2 | apply ev_andV (K := K) | apply ev_orV (K := K) | apply ev_notV (K := K) | apply ev_if
  | apply ev_sl | apply evO_none | apply evO_some (K := K) | apply ev_rev | apply ev_bm1 | apply ev_bm0 | apply ev_dnew (K := K) | apply ev_disp (K := K) | apply ev_dget1 (K := K) | apply ev_dget2 (K := K) | apply ev_dinI (K := K) | apply ev_dninI (K := K) | apply ev_chainI (K := K)
  | apply ev_call | apply ev_call1
  | apply evD_nil | apply evD_cons | apply evA_nil | apply evA_x (K := K) | apply evPs_nil | apply evPs_cons
  | apply ev_dispN (K := K) | apply evPsN_nil | apply evPsN_cons | apply ev_ninN (K := K) | apply ev_ninR (K := K) | apply ev_dcR (K := K)
  | apply evT_val (K := K) | apply evT_B (K := K) | apply evT_and | apply evT_or | apply evT_not | apply evT_yes)
local macro_rules | `(tactic| k_dat 0 "vr") => `(tactic| first
  | ((with_reducible apply ev_var); (case h => apply Eq.refl)) | ((with_reducible apply ev_at); (case h => apply Eq.refl))
  | ((with_reducible apply x_augI); (case hi => decide); (case h0 => apply Eq.refl)))
local macro_rules | `(tactic| k_dat 0 "tg") => `(tactic| first
  | (with_reducible apply tg_name) | ((with_reducible apply tg_move); (case h => apply Eq.refl)) | ((with_reducible apply tg_tup); (case hn => rfl)) | (with_reducible apply tg_row) | (with_reducible apply tgs_nil) | (with_reducible apply tgs_consN))
local macro_rules | `(tactic| k_dat 0 "len") => `(tactic| ((first | apply lt_line | apply le_line); (try simp only [List.length_map, List.length_append, List.length_cons, List.length_nil, List.length_range]); omega))
local macro_rules | `(tactic| k_dat 0 "op") => `(tactic| first
  | ((with_reducible apply op_i0 (K := K)); (case h1 => k_dat 0 "rd"); (case h2 => k_dat 0 "rd"); (case hd => k_dat 0 "sc"))
  | ((with_reducible apply op_eqI (K := K)); (case h1 => k_dat 0 "rd"); (case h2 => k_dat 0 "rd")) | ((with_reducible apply op_neI (K := K)); (case h1 => k_dat 0 "rd"); (case h2 => k_dat 0 "rd"))
  | ((with_reducible apply op_eqS (K := K)); (case h1 => k_dat 0 "rd"); (case h2 => k_dat 0 "rd")) | ((with_reducible apply op_neS (K := K)); (case h1 => k_dat 0 "rd"); (case h2 => k_dat 0 "rd"))
  | ((with_reducible apply op_ixR0 (K := K)); (case h1 => k_dat 0 "rd"); (case h2 => k_dat 0 "rd")) | ((with_reducible apply op_ixR1 (K := K)); (case h1 => k_dat 0 "rd"); (case h2 => k_dat 0 "rd")) | ((with_reducible apply op_ixR2 (K := K)); (case h1 => k_dat 0 "rd"); (case h2 => k_dat 0 "rd"))
  | ((with_reducible apply un_i (K := K)); (case h1 => k_dat 0 "rd"); (case hd => k_dat 0 "sc"))
  | ((with_reducible apply un_len (K := K)); (case h => k_dat 0 "rdS")) | ((with_reducible apply un_list (K := K)); (case h => k_dat 0 "rdS")) | ((with_reducible apply un_tuple (K := K)); (case h => first | (apply rdS.l; k_dat 0 "rd") | (apply rdS.t; k_dat 0 "rd")))
  | ((with_reducible apply un_int (K := K)); (case h => k_dat 0 "rd")) | ((with_reducible apply un_lenD (K := K)); (case h => k_dat 0 "rdD")) | ((with_reducible apply un_listK (K := K)); (case h => k_dat 0 "rdD"))
  | ((with_reducible apply op_append (K := K)); (case hd => k_dat 0 "asD"); (case e => apply Eq.refl); (case hl => k_dat 0 "len"))
  | ((with_reducible apply op_cat_ (K := K)); (case h1 => k_dat 0 "rd"); (case h2 => k_dat 0 "rd"); (case hl => k_dat 0 "len"))
  | ((with_reducible apply op_max2 (K := K)); (case h1 => k_dat 0 "rd"); (case h2 => k_dat 0 "rd")) | ((with_reducible apply op_min2 (K := K)); (case h1 => k_dat 0 "rd"); (case h2 => k_dat 0 "rd"))
  | ((with_reducible apply sl_list_ (K := K)); (case h1 => k_dat 0 "rd")) | ((with_reducible apply sl_tup_ (K := K)); (case h1 => k_dat 0 "rd")))
local macro_rules | `(tactic| k_dat 0 "sp") => `(tactic| first
  | ((with_reducible (apply Exists.intro; apply And.intro)); (case left => with_reducible apply Eq.refl))
  | ((with_reducible (apply Exists.intro; apply And.intro)); (case left => first | k_dat 0 "rd" | k_dat 0 "rdD"))
  | ((with_reducible apply And.intro); (case left => (with_reducible apply Exists.intro); k_dat 0 "rdD"))
  | ((with_reducible (apply Exists.intro; apply Exists.intro; apply And.intro)); (case left => first | k_dat 0 "asD" | k_dat 0 "asX"))
  | ((with_reducible apply And.intro); (case left => apply len_le; apply Eq.refl))
  | ((with_reducible (apply Exists.intro (Sum.inl _); apply And.intro)); (case left => apply Eq.refl)) | ((with_reducible (apply Exists.intro (Sum.inr _); apply And.intro)); (case left => apply Eq.refl)))
local macro_rules | `(tactic| k_dat 0 "wk") => `(tactic| with_reducible first | apply x_forD (K := K) | apply x_lc (K := K) | apply wkD_list | apply wkD_tup | apply wkD_seq | apply wkD_rng1 | apply wkD_rng2 | apply wkD_str)
local macro_rules | `(tactic| k_dat 0 "ml1") => `(tactic| first | k_dat 0 "st" | k_dat 0 "ex" | k_dat 0 "wk" | k_dat 0 "vr" | k_dat 0 "tg" | k_dat 0 "op" | k_dat 0 "sp")
local macro_rules | `(tactic| k_dat 0 "ml") => `(tactic| repeat k_dat 0 "ml1")
local macro_rules | `(tactic| k_dat 0 "tx") => `(tactic| first
  | ((with_reducible apply op_inSign (K := K)); (case h1 => k_dat 0 "rd"); (case h2 => k_dat 0 "rd"))
  | ((with_reducible apply op_addS (K := K)); (case h1 => k_dat 0 "rd"); (case h2 => k_dat 0 "rd"))
  | ((with_reducible apply op_isN_ (K := K)); (case h1 => k_dat 0 "rd"); (case h2 => k_dat 0 "rd"))
  | ((with_reducible apply op_notN_ (K := K)); (case h1 => k_dat 0 "rd"); (case h2 => k_dat 0 "rd"))
  | ((with_reducible apply un_strI (K := K)); (case h => k_dat 0 "rd"))
  | ((with_reducible apply op_join_ (K := K)); (case h1 => k_dat 0 "rd"))
  | ((with_reducible apply op_split_ (K := K)); (case h1 => k_dat 0 "rd"); (case h2 => k_dat 0 "rd"))
  | with_reducible apply ev_m1 (K := K) | with_reducible apply ev_js (K := K) | with_reducible apply evJ_cons (K := K) | with_reducible apply evJ_nil)
local macro_rules | `(tactic| k_dat 0 "ml1") => `(tactic| first | k_dat 0 "st" | k_dat 0 "ex" | k_dat 0 "wk" | k_dat 0 "vr" | k_dat 0 "tg" | k_dat 0 "op" | k_dat 0 "sp" | k_dat 0 "tx")
def writtenM (K : PySem.W.Frag) : MSp := fun Rs q => ∃ (n : Nat) (R : List Row), Rs = [dat K (.int n), dat K (.tuple (R.map rowD))] ∧ n < 10 ^ 6 ∧ R.length ≤ 1000 ∧ (∀ r ∈ R, WOk r) ∧ q (dat K (.str (textS n R))) []
abbrev S_law_written (K : PySem.W.Frag) : Sp := spOf 0 (writtenM K)
theorem scWritten : FnScope ["_law_count", "_law_links", "_law_rows", "_law_here", "_law_word_here", "_law_to"] ["_law_count", "_law_links"] (defScope sWritten) := ⟨rfl, rfl, rfl, by decide +kernel, rfl, by decide +kernel, by decide +kernel⟩
theorem ok_written {f : Addr} {fd : FuncData} (G : Fun K "_law_written" "_law_written" sWritten f fd) (T : CH.Blt2 mg) :
    FnG P w K mg base CX0 1 f fd ["_law_count", "_law_links"] (S_law_written K) := by
  refine fn_ml G scWritten (fun Rs q ⟨_, _, h, _⟩ => by rw [h]; rfl) (by decide) fun cdv A outer s H E hrG => ?_
  have hr := hrG.room
  refine ⟨_, (pss_cons (ps_set (i := 2) scWritten.nd rfl (Or.inl rfl) (pe_lst (pa_cons (pe_op op_add_str pe_str (pe_callTy call_str_int (by rfl) T.b_str (by decide +kernel) (pa_cons (pv 0) pa_nil))) pa_nil)))
  (pss_cons (ps_for PassesOwn.never rfl (pi_tup (pv 1)) (pg_tup (n := 3) rfl (pgs_cons (pg_name (i := 3) scWritten.nd rfl (Or.inl rfl)) (pgs_cons (pg_name (i := 4) scWritten.nd rfl (Or.inl rfl)) (pgs_cons (pg_name (i := 5) scWritten.nd rfl (Or.inl rfl)) pgs_nil))))
    (pss_one (ps_expr (pe_bm PySem.F.plainAttrs_list PySem.F.slot_list_append PySem.F.type_list_append mt_append (pv 2) (pa_cons (pe_join pe_str (pe_lst (pa_cons (pe_callTy call_str_int (by rfl) T.b_str (by decide +kernel) (pa_cons (pv 3) pa_nil)) (pa_cons (pv 4) (pa_cons (pe_ifExp (pt_cmpR op_lt (pv 5) pe_int (nomark _)) pe_str (pe_callTy call_str_int (by rfl) T.b_str (by decide +kernel) (pa_cons (pv 5) pa_nil))) pa_nil))))) pa_nil)))))
  (pss_one (ps_ret (pe_join pe_str (pv 2)))))), ?_⟩
  rintro Rs q ⟨n, R, rfl, hn, hl, hR, hq⟩
  rw [outF_eq]
  try dsimp only [cxOf, Cx.nox, Cx.wish]
  show ML.ex 0 _ [some (dat K (.int n)), some (dat K (.tuple (R.map rowD))), none, none, none, none] _
  have e6 : ("states " : Str).length = 7 := by decide +kernel
  have hnl := numN_len hn
  k_dat 0 "ml"
  · exact log_ok (by omega) (by omega)
  k_dat 0 "ml"
  · exact le_line (by rw [e6]; show 7 + (numN n).length ≤ _; omega)
  k_dat 0 "ml"
  rw [show ("states " : Str) ++ (toString ((n : Nat) : Int) : Str) = headS n from TL.ext_tl (by
    rw [TL.tl_append, tl_head, show tl ("states " : Str) = [115, 116, 97, 116, 101, 115, 32] by decide +kernel, TL.tl_num]
    rfl)]
  refine for_pre R rowD rfl (fun pre ρ' => ∃ (x3 x4 x5 : Option Res), ρ' = [some (dat K (.int n)), some (dat K (.tuple (R.map rowD))), some (ML.lo K ((headS n :: pre.map lineS).map .str)), x3, x4, x5]) ⟨none, none, none, rfl⟩ ?_ ?_
  · rintro pre r post ρ' epre ⟨x3, x4, x5, rfl⟩
    have hw := hR r (by rw [epre]; exact List.mem_append_right _ List.mem_cons_self)
    have hpl : pre.length ≤ 1000 := by
      have := congrArg List.length epre
      rw [List.length_append] at this
      omega
    obtain ⟨⟨h1, h2⟩, hlb, h3, h4⟩ := id hw
    refine ⟨[3, 4, 5], by decide, ?_⟩
    k_dat 0 "ml"
    · exact log_ok (by omega) h2
    k_dat 0 "ml"
    refine ⟨fun h => ?_, fun h => ?_⟩
    · have hlt := of_decide_eq_true h
      have et : endS = tgtS r.2.2 := (if_pos hlt).symm
      k_dat 0 "ml"
      · show rdS K _ _ ((wordsS r).map PyData.str)
        rw [show (wordsS r).map PyData.str = [.str (toString r.1), .str r.2.1, .str (tgtS r.2.2)] from rfl, ← et]
        exact rdS.l rd.own
      · exact Nat.le_trans (words_sum hw) (by decide)
      · rw [show Txt.join (" " : Str) (wordsS r) = lineS r from rfl]
        k_dat 0 "ml"
        rw [show (headS n :: pre.map lineS).map PyData.str ++ [PyData.str (lineS r)] = (headS n :: (pre ++ [r]).map lineS).map PyData.str by simp]
        exact ⟨_, _, _, rfl⟩
    · have hge := of_decide_eq_false h
      have et : tgtS r.2.2 = (toString r.2.2 : Str) := if_neg hge
      k_dat 0 "ml"
      · exact log_ok h3 h4
      k_dat 0 "ml"
      · show rdS K _ _ ((wordsS r).map PyData.str)
        rw [show (wordsS r).map PyData.str = [.str (toString r.1), .str r.2.1, .str (tgtS r.2.2)] from rfl, et]
        exact rdS.l rd.own
      · exact Nat.le_trans (words_sum hw) (by decide)
      · rw [show Txt.join (" " : Str) (wordsS r) = lineS r from rfl]
        k_dat 0 "ml"
        rw [show (headS n :: pre.map lineS).map PyData.str ++ [PyData.str (lineS r)] = (headS n :: (pre ++ [r]).map lineS).map PyData.str by simp]
        exact ⟨_, _, _, rfl⟩
  · rintro ρ' ⟨x3, x4, x5, rfl⟩
    have hs := lines_sum hn hR
    k_dat 0 "ml"
    · show rdS K _ _ ((headS n :: R.map lineS).map PyData.str)
      exact rdS.l (rd.slotL rfl)
    · exact Nat.le_trans hs (by omega)
    · exact ⟨_, [], ret_val rfl, hq⟩
end
end K24

/-! Rows of few states as data that are shown. -/
namespace K24
open PySem L2 KS GL LB K24m ML
open PySem.Spec hiding Row
open PyProof.Rows hiding cnt
def twelve : List Int := [0, 1, 2, 3, 4, 5, 6, 7, 8, 9, 10, 11]
theorem in_twelve {x : Int} (h1 : -1 ≤ x) (h2 : x < 12) : InM twelve x := by
  refine ⟨⟨Int.le_trans (by decide) h1, Int.le_trans (Int.le_of_lt h2) (by decide)⟩, ?_⟩
  unfold twelve
  have : x = -1 ∨ x = 0 ∨ x = 1 ∨ x = 2 ∨ x = 3 ∨ x = 4 ∨ x = 5 ∨ x = 6 ∨ x = 7 ∨ x = 8 ∨ x = 9 ∨ x = 10 ∨ x = 11 := by omega
  simpa using this
theorem withAddr (R : List Row) : ((R.map fun r => ((0 : Addr), r)).map fun q => rowD q.2) = R.map rowD := by
  rw [List.map_map]
  rfl
section
variable {M : List Int} {R : List Row}
theorem good_addr (h : ∀ r ∈ R, Good M r) : ∀ q ∈ R.map (fun r => ((0 : Addr), r)), Good M q.2 := fun q hq => by
  obtain ⟨r, hr, rfl⟩ := List.mem_map.mp hq
  exact h r hr
theorem rowsT_shown (h : ∀ r ∈ R, Good M r) (hl : R.length ≤ 76) : (PyData.tuple (R.map rowD)).showable = true ∧ (PyData.tuple (R.map rowD)).depth ≤ 60 ∧ (PyData.tuple (R.map rowD)).shown.length ≤ sizeLine := by
  have h1 := rows_show _ (good_addr h)
  have h2 := rows_weight _ (good_addr h)
  have h3 := rows_short _ (good_addr h)
  rw [withAddr] at h1 h2 h3
  rw [List.length_map] at h2
  have hd := depth_rowsL R
  refine ⟨by rw [PyData.showable]; exact h1, by rw [PyData.depth]; omega, ?_⟩
  have h5 := PyData.shown_le 30 (by decide) (PyData.tuple (R.map rowD)) (by rw [PyData.leavesShort]; exact h3)
  rw [PyData.weight] at h5
  rw [sizeLine_eq]
  omega
theorem rowsT2_shown (h : ∀ r ∈ R, Good M r) (hl : R.length ≤ 76) : (PyData.list [.tuple (R.map rowD), .tuple (R.map rowD)]).showable = true ∧ (PyData.list [.tuple (R.map rowD), .tuple (R.map rowD)]).depth ≤ 60 ∧ (PyData.list [.tuple (R.map rowD), .tuple (R.map rowD)]).shown.length ≤ sizeLine := by
  have h1 := rows_show _ (good_addr h)
  have h2 := rows_weight _ (good_addr h)
  have h3 := rows_short _ (good_addr h)
  rw [withAddr] at h1 h2 h3
  rw [List.length_map] at h2
  have hd := depth_rowsL R
  refine ⟨by simp [PyData.showable, PyData.showableAll, h1], by simp only [PyData.depth, PyData.depthAll]; omega, ?_⟩
  have h5 := PyData.shown_le 30 (by decide) (PyData.list [.tuple (R.map rowD), .tuple (R.map rowD)]) (by simp [PyData.leavesShort, PyData.leavesShortAll, h3])
  simp only [PyData.weight, PyData.weightAll] at h5
  rw [sizeLine_eq]
  omega
end
end K24

/-! Lists and tuples of things that stand: displayed, put together, walked over. -/
namespace ML
open PySem PySem.Spec PyProof.Rows L2 KS GL LB
def PsH (H : Hp) (Ps : List Pd) (vs : List V) : Prop := vs.length = Ps.length ∧ ∀ (i : Nat) (P : Pd), Ps[i]? = some P → ∃ v, vs[i]? = some v ∧ P.p H v
theorem PsH.mono {H H' : Hp} {Ps : List Pd} {vs : List V} (h : PsH H Ps vs) (s : Same H H') : PsH H' Ps vs := ⟨h.1, fun i P e => by
  obtain ⟨v, e1, p⟩ := h.2 i P e
  exact ⟨v, e1, P.mono p s⟩⟩
theorem PsH.app {H : Hp} {Ps Qs : List Pd} {vs ws : List V} (h : PsH H Ps vs) (h' : PsH H Qs ws) : PsH H (Ps ++ Qs) (vs ++ ws) := ⟨by rw [List.length_append, List.length_append, h.1, h'.1], fun i P e => by
  rcases Nat.lt_or_ge i Ps.length with c | c
  · rw [List.getElem?_append_left c] at e
    obtain ⟨v, e1, p⟩ := h.2 i P e
    exact ⟨v, by rw [List.getElem?_append_left (by rw [h.1]; exact c)]; exact e1, p⟩
  · rw [List.getElem?_append_right c] at e
    obtain ⟨v, e1, p⟩ := h'.2 _ P e
    exact ⟨v, by rw [List.getElem?_append_right (by rw [h.1]; exact c), h.1]; exact e1, p⟩⟩
/-- a tuple (t) or list of things that stand -/
def seqP (t : Bool) (Ps : List Pd) : Pd := ⟨fun H v => ∃ a vs, v = .ref a ∧ H a = some (if t = true then HO.tup vs else HO.lst vs) ∧ PsH H Ps vs, fun ⟨a, vs, e, h, p⟩ s => ⟨a, vs, e, s _ _ h, p.mono s⟩⟩
theorem post_newP {ρ : MS} {G : FP} {σ : L2.St} {H0 H : Hp} {p : Addr} {o : HO} {P : Pd} (S : Sat ρ σ H0 H G) (hp : H p = none) (h : P.p (upd H0 p o) (.ref p)) : Post G σ H0 H (.val (pu P)) ρ (.ref p) (fun _ => False) (upd H0 p o) (upd H p o) := by
  refine ⟨⟨same_upd (S.same.free hp), fun a ha => ?_⟩, ⟨h, fun _ h => h⟩, fun _ h => h.elim, (S.new hp).frame fun a ha => ha.resolve_right id⟩
  exact upd_ne fun e => (S.fr a ha).1 (e ▸ hp)
section
variable {K : PySem.W.Frag} {ρ : MS} {Q : Rt → MS → Prop} {ta : TA} {tb te : TE} {r1 r2 : Rt} {np : Nat} {Φ : Out} {ts : TS}
theorem ev_tupP (h : evA ta ρ fun rs ρ1 => ∃ Ps : List Pd, rs = Ps.map (fun P => Rt.val (pu P)) ∧ Ps.length ≤ 1000 ∧ Q (.val (pu (seqP true Ps))) ρ1) : ev (tTup ta) ρ Q := by
  intro σ H0 H G k S hk
  refine h σ H0 H G _ S fun rs ρ1 vs f H1 H1' ⟨Ps, e, hl, q⟩ p => ?_
  subst e
  obtain ⟨g1, g2⟩ := rts_pure p.rt
  have S1 : Sat ρ1 σ H1 H1' G := p.sat.frame fun _ => .inl
  refine ⟨by rw [g1]; exact le_line (by omega), fun a ha => hk _ _ _ _ _ _ q (post_ext p.ext (post_newP S1 ha ⟨a, vs, rfl, upd_same, ?_⟩))⟩
  exact PsH.mono ⟨g1, g2⟩ (same_upd (S1.same.free ha))
theorem ev_lstP (h : evA ta ρ fun rs ρ1 => ∃ Ps : List Pd, rs = Ps.map (fun P => Rt.val (pu P)) ∧ Ps.length ≤ 1000 ∧ Q (.val (pu (seqP false Ps))) ρ1) : ev (tLst ta) ρ Q := by
  intro σ H0 H G k S hk
  refine h σ H0 H G _ S fun rs ρ1 vs f H1 H1' ⟨Ps, e, hl, q⟩ p => ?_
  subst e
  obtain ⟨g1, g2⟩ := rts_pure p.rt
  have S1 : Sat ρ1 σ H1 H1' G := p.sat.frame fun _ => .inl
  refine ⟨by rw [g1]; exact le_line (by omega), fun a ha => hk _ _ _ _ _ _ q (post_ext p.ext (post_newP S1 ha ⟨a, vs, rfl, upd_same, ?_⟩))⟩
  exact PsH.mono ⟨g1, g2⟩ (same_upd (S1.same.free ha))
theorem op_catP {Ps Qs : List Pd} (e1 : r1 = .val (pu (seqP false Ps))) (e2 : r2 = .val (pu (seqP false Qs))) (hl : Ps.length + Qs.length ≤ 1000) (q : Q (.val (pu (seqP false (Ps ++ Qs)))) ρ) : opR rCat r1 r2 ρ Q := by
  subst e1 e2
  intro σ H0 H G v1 v2 f1 f2 k S h1 h2 _ _ _ hk
  obtain ⟨a, xs, rfl, ha, hx⟩ := h1.1
  obtain ⟨b, ys, rfl, hb, hy⟩ := h2.1
  have ha : H0 a = some (HO.lst xs) := ha
  have hb : H0 b = some (HO.lst ys) := hb
  have S1 : Sat ρ σ H0 H G := S.frame fun _ => .inl
  refine ⟨a, b, xs, ys, rfl, rfl, S.same _ _ ha, S.same _ _ hb, by rw [hx.1, hy.1]; exact le_line (by omega), fun p hp => hk _ _ _ _ _ _ q (post_newP S1 hp ⟨p, _, rfl, upd_same, ?_⟩)⟩
  exact (hx.app hy).mono (same_upd (S1.same.free hp))
/-- one thing behind another -/
theorem evA_pu {P : Pd} {te : TE} {ta : TA} {Qa : List Rt → MS → Prop} (h : ev te ρ fun r ρ1 => r = .val (pu P) ∧ evA ta ρ1 fun rs ρ2 => Qa (r :: rs) ρ2) : evA (tCons te ta) ρ Qa := evA_cons (ev_mono h fun r ρ1 h => h.2)
/-! ### for -/
def wkP (wi : TI) (ρ : MS) (C : List Pd → MS → Prop) : Prop := ∀ (σ : L2.St) (H0 H : Hp) (G : FP) (k : It → Hp → Prop), Sat ρ σ H0 H G →
  (∀ Ps ρ' J H0' H', C Ps ρ' → Ext G H0 H H0' H' → Sat ρ' σ H0' H' G → Walk J Ps.length (fun H2 => Same H0' H2) (fun i H x H' => H' = H ∧ ∀ P : Pd, Ps[i]? = some P → ∀ H0'', Same H0' H0'' → P.p H0'' x) → k J H') → wi σ H k
theorem psh_at {H0 : Hp} {vs : List V} {Ps : List Pd} (h : PsH H0 Ps vs) {i : Nat} {H H' : Hp} {x : V} (y : YAt vs i H x H') : H' = H ∧ ∀ P : Pd, Ps[i]? = some P → ∀ H0'', Same H0 H0'' → P.p H0'' x := by
  obtain ⟨rfl, e⟩ := y
  refine ⟨rfl, fun P eP H0'' s => ?_⟩
  obtain ⟨v, e2, hd⟩ := h.2 i P eP
  obtain rfl : v = x := Option.some.inj (e2.symm.trans e)
  exact P.mono hd s
theorem wkP_tup {C : List Pd → MS → Prop} (h : ev te ρ fun r ρ1 => ∃ Ps, r = .val (pu (seqP true Ps)) ∧ C Ps ρ1) : wkP (iTup K te) ρ C := by
  intro σ H0 H G k S hk
  refine h σ H0 H G _ S fun r ρ1 v f H1 H1' ⟨Ps, e, q⟩ p => ?_
  subst e
  obtain ⟨a, vs, rfl, h1, h2⟩ := p.rt.1
  have h1 : H1 a = some (HO.tup vs) := h1
  have S1 : Sat ρ1 σ H1 H1' G := p.sat.frame fun _ => .inl
  refine ⟨a, rfl, ⟨vs, .inl (.inl (S1.same _ _ h1))⟩, hk _ ρ1 _ H1 H1' q p.ext S1 ?_⟩
  rw [← h2.1]
  exact (L2.walk_tup (K := K) (a := a) (xs := vs)).mono (fun H s => .inl (.inl (s _ _ h1))) fun i H x H' _ _ y => psh_at h2 y
theorem wkP_list {C : List Pd → MS → Prop} (h : ev te ρ fun r ρ1 => ∃ Ps, r = .val (pu (seqP false Ps)) ∧ C Ps ρ1) : wkP (iList K te) ρ C := by
  intro σ H0 H G k S hk
  refine h σ H0 H G _ S fun r ρ1 v f H1 H1' ⟨Ps, e, q⟩ p => ?_
  subst e
  obtain ⟨a, vs, rfl, h1, h2⟩ := p.rt.1
  have h1 : H1 a = some (HO.lst vs) := h1
  have S1 : Sat ρ1 σ H1 H1' G := p.sat.frame fun _ => .inl
  refine ⟨a, rfl, ⟨vs, .inl (.inl (S1.same _ _ h1))⟩, hk _ ρ1 _ H1 H1' q p.ext S1 ?_⟩
  rw [← h2.1]
  exact (walk_list (K := K) (a := a) (xs := vs)).mono (fun H s => .inl (.inl (s _ _ h1))) fun i H x H' _ _ y => psh_at h2 y
theorem x_forP {wi : TI} {g : TG} {n : MS → Prop} {r : Rt → MS → Prop} {b c : MS → Prop} (h : wkP wi ρ fun Ps ρ1 => ∃ I : Nat → MS → Prop, I 0 ρ1 ∧ (∀ i P ρ', Ps[i]? = some P → I i ρ' → ∃ l, (∀ j ∈ l, np ≤ j) ∧ tg l g (.val (pu P)) ρ' fun ρ2 => ex np ts ρ2 ⟨I (i + 1), r, n, I (i + 1)⟩) ∧ ∀ ρ', I Ps.length ρ' → n ρ') : ex np (tFor wi g ts) ρ ⟨n, r, b, c⟩ := by
  intro σ H0 H G D S kn kr kb kc
  refine h σ H0 H G _ S fun Ps ρ1 J H1 H1' ⟨I, i0, step, fin⟩ e1 S1 w => ?_
  refine for_it w (fun i σ' H' => ∃ ρ' H0', I i ρ' ∧ σ'.take np = σ.take np ∧ Ext G H1 H1' H0' H' ∧ Sat ρ' σ' H0' H' G) ⟨ρ1, H1, i0, rfl, Ext.refl, S1⟩ (fun i σ' H' _ ⟨ρ', H0', _, _, e, S'⟩ => e.s0.trans S'.same) ?_ ?_
  · rintro i x σ' H' H'' hi ⟨ρ', H0', hI, ht, e2, S2⟩ ⟨rfl, y⟩
    have eP := List.getElem?_eq_getElem hi
    obtain ⟨l, hl, hg⟩ := step i _ ρ' eP hI
    refine hg σ' H0' _ G x (fun _ => False) _ (S2.frame fun a ha => ha.resolve_right id) ⟨y _ eP H0' e2.s0, fun _ h => h⟩ (fun _ h => h.elim) fun ρ2 σ2 H2 H2' q2 t2 _ e4 S4 => ?_
    have t3 := (t2 np hl).trans ht
    have e5 := e2.trans e4
    have again : ∀ ρ3 σ3 H3 H3', I (i + 1) ρ3 → σ3.take np = σ2.take np → Ext G H2 H2' H3 H3' → Sat ρ3 σ3 H3 H3' G → ∃ ρ' H0', I (i + 1) ρ' ∧ σ3.take np = σ.take np ∧ Ext G H1 H1' H0' H3' ∧ Sat ρ' σ3 H0' H3' G := fun ρ3 σ3 H3 H3' q3 t4 e6 S5 => ⟨ρ3, H3, q3, t4.trans t3, e5.trans e6, S5⟩
    exact q2 σ2 H2 H2' G _ S4 again (fun r ρ3 σ3 v f H3 H3' q3 t4 p3 => kr r ρ3 σ3 v f H3 H3' q3 (t4.trans t3) (post_ext (e1.trans e5) p3)) (fun ρ3 σ3 H3 H3' q3 t4 e6 S5 => kn ρ3 σ3 H3 H3' q3 (t4.trans t3) ((e1.trans e5).trans e6) S5) again
  · rintro σ' H' ⟨ρ', H0', hI, ht, e2, S2⟩
    exact kn ρ' σ' H0' H' (fin ρ' hI) ht (e1.trans e2) S2
/-- all turns leave the same -/
theorem x_forPc {wi : TI} {g : TG} {n : MS → Prop} {r : Rt → MS → Prop} {b c : MS → Prop} (h : wkP wi ρ fun Ps ρ1 => ∃ J : MS → Prop, J ρ1 ∧ (∀ P ∈ Ps, ∀ ρ', J ρ' → ∃ l, (∀ j ∈ l, np ≤ j) ∧ tg l g (.val (pu P)) ρ' fun ρ2 => ex np ts ρ2 ⟨J, r, n, J⟩) ∧ ∀ ρ', J ρ' → n ρ') : ex np (tFor wi g ts) ρ ⟨n, r, b, c⟩ :=
  x_forP fun σ H0 H G k S hk => h σ H0 H G k S fun Ps ρ1 J H1 H1' ⟨I, i0, st, fin⟩ => hk Ps ρ1 J H1 H1' ⟨fun _ => I, i0, fun i P ρ' e hI => st P (List.mem_of_getElem? e) ρ' hI, fin⟩
end
end ML

/-! _law_right. -/
namespace K24
open PySem L2 KS GL LB K24m ML
open CH (outs sucs ChC ChartAt cf cf_arrows cf_states cf_no ChartOk spInit arrowB labelB ps_dead)
open PySem.Spec hiding Row
open PyProof.Rows hiding cnt
open TL (tl numL)
def ownM (R : List Row) : List Int := R.map (·.1) ++ R.map (·.2.2)
theorem good_own {R : List Row} (h : ∀ r ∈ R, WOk r) : ∀ r ∈ R, Good (ownM R) r := fun r hr => by
  have w := h r hr
  have l := wok_lbl w
  obtain ⟨⟨h1, h2⟩, _, h3, h4⟩ := w
  refine ⟨⟨⟨Int.le_trans (by decide) h1, Int.le_trans (Int.le_of_lt h2) (by decide)⟩, .inr (List.mem_append_left _ (List.mem_map.mpr ⟨r, hr, rfl⟩))⟩, l, ⟨⟨Int.le_trans (by decide) h3, Int.le_trans (Int.le_of_lt h4) (by decide)⟩, .inr (List.mem_append_right _ (List.mem_map.mpr ⟨r, hr, rfl⟩))⟩⟩
theorem str_short {z : Str} (h : PyData.strOk z = true) : PyData.leavesShort 30 (.str z) = true := by
  unfold PyData.strOk at h
  rw [Array.all_eq_true_iff_forall_mem] at h
  unfold PyData.leavesShort
  rw [List.all_eq_true]
  intro c hc
  have := of_decide_eq_true (h c (Array.mem_toList_iff.mp hc))
  exact decide_eq_true (Nat.lt_trans this (by decide))
theorem str2_shown {z : Str} (h : PyData.strOk z = true) (hl : z.length ≤ 10000) : (PyData.list [.str z, .str z]).showable = true ∧ (PyData.list [.str z, .str z]).depth ≤ 60 ∧ (PyData.list [.str z, .str z]).shown.length ≤ sizeLine := by
  have hs := str_short h
  refine ⟨rfl, by simp [PyData.depth, PyData.depthAll], ?_⟩
  have h5 := PyData.shown_le 30 (by decide) (PyData.list [.str z, .str z]) (by simp [PyData.leavesShort, PyData.leavesShortAll] at hs ⊢; exact hs)
  have e : (PyData.list [.str z, .str z]).weight = z.length + 1 + (z.length + 1 + 0) := rfl
  rw [e] at h5
  rw [sizeLine_eq]
  omega
theorem trip_shown {n : Nat} {R : List Row} {z : Str} (hn : n < 10 ^ 6) (h : ∀ r ∈ R, WOk r) (hl : R.length ≤ 200) (hz : PyData.strOk z = true) (hzl : z.length ≤ 10000) : (PyData.list [.int n, .tuple (R.map rowD), .str z]).showable = true ∧ (PyData.list [.int n, .tuple (R.map rowD), .str z]).depth ≤ 60 ∧ (PyData.list [.int n, .tuple (R.map rowD), .str z]).shown.length ≤ sizeLine := by
  have g := good_own h
  have h1 := rows_show _ (good_addr g)
  have h2 := rows_weight _ (good_addr g)
  have h3 := rows_short _ (good_addr g)
  rw [withAddr] at h1 h2 h3
  rw [List.length_map] at h2
  have hd := depth_rowsL R
  have hzs := str_short hz
  have hs : Small (n : Int) := ⟨by omega, by omega⟩
  have hw := int_weight hs
  have hlog := int_log hs
  have hsh := int_shown hs
  refine ⟨?_, by simp only [PyData.depth, PyData.depthAll]; omega, ?_⟩
  · have hlog' : n.log2 ≤ 80 := by simpa using hlog
    simp [PyData.showable, PyData.showableAll, h1]
    omega
  have h5 := PyData.shown_le 30 (by decide) (PyData.list [.int n, .tuple (R.map rowD), .str z]) (by
    rw [PyData.leavesShort, PyData.leavesShortAll, PyData.leavesShortAll, PyData.leavesShortAll, hzs]
    simp [PyData.leavesShort, PyData.leavesShortAll, h3, hsh])
  have e1 : (PyData.list [.int n, .tuple (R.map rowD), .str z]).weight = (PyData.int (n : Int)).weight + 1 + (PyData.weightAll (R.map rowD) + 1 + (z.length + 1 + 0)) := by
    rw [PyData.weight, PyData.weightAll, PyData.weightAll, PyData.weightAll, PyData.weightAll, PyData.weight, PyData.weight]
    rfl
  rw [e1] at h5
  rw [sizeLine_eq]
  omega
theorem pair_shown {n : Nat} {R : List Row} (hn : n < 10 ^ 6) (h : ∀ r ∈ R, WOk r) (hl : R.length ≤ 200) : (PyData.list [.int n, .tuple (R.map rowD)]).showable = true ∧ (PyData.list [.int n, .tuple (R.map rowD)]).depth ≤ 60 ∧ (PyData.list [.int n, .tuple (R.map rowD)]).shown.length ≤ sizeLine := by
  have g := good_own h
  have h1 := rows_show _ (good_addr g)
  have h2 := rows_weight _ (good_addr g)
  have h3 := rows_short _ (good_addr g)
  rw [withAddr] at h1 h2 h3
  rw [List.length_map] at h2
  have hd := depth_rowsL R
  have hs : Small (n : Int) := ⟨by omega, by omega⟩
  have hw := int_weight hs
  have hlog := int_log hs
  have hsh := int_shown hs
  refine ⟨?_, by simp only [PyData.depth, PyData.depthAll]; omega, ?_⟩
  · have hlog' : n.log2 ≤ 80 := by simpa using hlog
    simp [PyData.showable, PyData.showableAll, h1]
    omega
  have h5 := PyData.shown_le 30 (by decide) (PyData.list [.int n, .tuple (R.map rowD)]) (by simp [PyData.leavesShort, PyData.leavesShortAll, h3, hsh])
  have e1 : (PyData.list [.int n, .tuple (R.map rowD)]).weight = (PyData.int (n : Int)).weight + 1 + (PyData.weightAll (R.map rowD) + 1 + 0) := by
    rw [PyData.weight, PyData.weightAll, PyData.weightAll, PyData.weightAll, PyData.weight]
  rw [e1] at h5
  rw [sizeLine_eq]
  omega
theorem mem_joinL {S : List Nat} {c : Nat} : ∀ {parts : List (List Nat)}, c ∈ TL.joinL S parts → c ∈ S ∨ ∃ p ∈ parts, c ∈ p
  | [], h => nomatch h
  | [p], h => .inr ⟨p, List.mem_cons_self, h⟩
  | p :: q :: r, h => by
    have h : c ∈ p ++ (S ++ TL.joinL S (q :: r)) := h
    rcases List.mem_append.mp h with h | h
    · exact .inr ⟨p, List.mem_cons_self, h⟩
    rcases List.mem_append.mp h with h | h
    · exact .inl h
    · rcases mem_joinL h with h | ⟨x, hx, h⟩
      · exact .inl h
      · exact .inr ⟨x, List.mem_cons_of_mem _ hx, h⟩
theorem low_num {i : Int} (h : 0 ≤ i) {c : Nat} (hc : c ∈ tl (numS i)) : c ≤ 122 := by
  rw [numS_nat h, tl_numN] at hc
  have := num_sign hc
  omega
theorem low_line {r : Row} (h : WOk r) {c : Nat} (hc : c ∈ tl (lineS r)) : c ≤ 122 := by
  obtain ⟨⟨h1, _⟩, h2, h3, _⟩ := h
  rw [tl_line] at hc
  rcases List.mem_append.mp hc with hc | hc
  · exact low_num h1 hc
  rcases List.mem_cons.mp hc with hc | hc
  · omega
  rcases List.mem_append.mp hc with hc | hc
  · exact (label_sign h2 hc).2
  rcases List.mem_cons.mp hc with hc | hc
  · omega
  · unfold tgtS at hc
    split at hc
    · rw [tl_endS] at hc
      simp at hc
      omega
    · exact low_num (by omega) hc
theorem low_head {n c : Nat} (hc : c ∈ tl (headS n)) : c ≤ 122 := by
  rw [tl_head] at hc
  rcases List.mem_append.mp hc with hc | hc
  · simp at hc
    omega
  rcases List.mem_cons.mp hc with hc | hc
  · omega
  · have := num_sign hc
    omega
theorem text_ok {n : Nat} {R : List Row} (h : ∀ r ∈ R, WOk r) : PyData.strOk (textS n R) = true := by
  have low : ∀ c ∈ tl (textS n R), c ≤ 122 := by
    intro c hc
    unfold textS at hc
    rw [TL.join_eq, TL.tl_join, tl_nlS] at hc
    rcases mem_joinL hc with hc | ⟨p, hp, hc⟩
    · simp at hc
      omega
    · obtain ⟨y, hy, rfl⟩ := List.mem_map.mp hp
      rcases List.mem_cons.mp hy with rfl | hy
      · exact low_head hc
      · obtain ⟨r, hr, rfl⟩ := List.mem_map.mp hy
        exact low_line (h r hr) hc
  unfold PyData.strOk
  rw [Array.all_eq_true_iff_forall_mem]
  intro c hc
  have := low c (Array.mem_toList_iff.mpr hc)
  exact decide_eq_true (by omega)
theorem chart_insA {K : PySem.W.Frag} {C : Addr} {n : Nat} {R : List Row} : ∃ m, insP C m (chartP K C n R) := ⟨"without", chart_ins (by decide +kernel) (by decide +kernel) (by decide +kernel)⟩
section
variable {K : PySem.W.Frag} {ρ : MS} {Q : Rt → MS → Prop} {C : Addr}
theorem ev_cls (q : Q (.val (pu (clsP C))) ρ) : ev (tC (.ref C)) ρ Q := fun σ H0 H G k S hk => hk _ _ _ _ _ _ q (post_pure S rfl)
theorem ev_cmeth {M : MSp} {t : TA} (h : evA t ρ fun rs ρ1 => call0 M (.val (pu (clsP C)) :: rs) ρ1 Q) : ev (ClX.tCMeth C (spOf 0 M) E0 (tC (.ref C)) t) ρ Q := by
  intro σ H0 H G k S hk
  have z := ev_call (ta := tCons (tC (.ref C)) t) (evA_cons (ev_cls h)) σ H0 H G k S hk
  refine ⟨rfl, ?_⟩
  have e : (fun (vs : List V) (H1 : Hp) => spOf 0 M ((V.ref C :: vs) ++ []) H1 k E0) = fun vs H1 => spOf 0 M (V.ref C :: vs) H1 k E0 := by
    funext vs H1
    rw [List.append_nil]
  show t σ H fun vs H1 => spOf 0 M (V.ref C :: vs) H1 k E0
  rw [← e]
  exact z
end
section
variable {P : Program} {w : World} {K : PySem.W.Frag} {mg : Str → Option Value} {base : Heap}
set_option hygiene false
local macro_rules | `(tactic| k_dat 0 "rd") => `(tactic| first | with_reducible apply rd.val | with_reducible apply rd.own | (apply rd.slot; apply Eq.refl) | (apply rd.slotL; apply Eq.refl))
local macro_rules | `(tactic| k_dat 0 "rdS") => `(tactic| first | with_reducible (apply rdS.l; apply rd.val) | with_reducible (apply rdS.t; apply rd.val) | with_reducible (apply rdS.l; apply rd.own) | (apply rdS.l; apply rd.slotL; apply Eq.refl) | (apply rdS.l; apply rd.slot; apply Eq.refl) | (apply rdS.t; apply rd.slot; apply Eq.refl))
local macro_rules | `(tactic| k_dat 0 "rdD") => `(tactic| first | with_reducible apply rdD.val | with_reducible apply rdD.own | (apply rdD.slot; apply Eq.refl) | (apply rdD.slotP; apply Eq.refl))
local macro_rules | `(tactic| k_dat 0 "sc") => `(tactic| first | apply Sc.int | apply Sc.bl | apply Sc.str | apply Sc.non)
local macro_rules | `(tactic| k_dat 0 "asD") => `(tactic| first | with_reducible apply asD.val | with_reducible apply asD.own | (apply asD.slot; apply Eq.refl))
local macro_rules | `(tactic| k_dat 0 "asX") => `(tactic| first | with_reducible apply asX.pure | with_reducible apply asX.own | (apply asX.slot; apply Eq.refl) | with_reducible apply asX.keep)
local macro_rules | `(tactic| k_dat 0 "nf") => `(tactic| first | (conv => arg 3; dsimp only [wipeM, List.set, List.map]) | skip)
local macro_rules | `(tactic| k_dat 0 "eq") => `(tactic| first | (dsimp only [wipeM, List.set, List.map]; done) | (dsimp only [wipeM, List.set, List.map]; apply Eq.refl) | apply Eq.refl)
local macro_rules | `(tactic| k_dat 0 "st") => `(tactic| first
  | ((with_reducible apply x_seq); k_dat 0 "nf") | ((with_reducible apply x_parT2); (case hi => omega); (case hj => omega)) | ((with_reducible apply x_asg2); (case hi => omega); (case hj => omega)) | ((with_reducible apply x_asg3); (case hi => omega); (case hj => omega); (case hl => omega)) | ((with_reducible apply x_par4); (case hi => omega); (case hj => omega); (case hk => omega); (case hl => omega)) | ((with_reducible apply x_par2); (case hij => omega); (case hi => omega); (case hj => omega)) | with_reducible first | (apply x_asg; case hl => decide) | apply x_drop | apply x_ret | apply x_next | apply x_break | apply x_cont
  | apply x_dput (K := K) | apply x_putN (K := K) | apply x_retN)
local macro_rules | `(tactic| k_dat 0 "ex") => `(tactic| with_reducible first
  | apply ev_int (K := K) | apply ev_str (K := K) | apply ev_bl (K := K) | apply ev_non (K := K)
  | apply ev_tup (K := K) | apply ev_lst (K := K) | apply ev_op | apply ev_un | apply ev_sset_rows (K := K) | apply ev_sset_ints (K := K) | apply ev_cb1 | apply ev_cb2 | apply ev_andV (K := K) | apply ev_orV (K := K) | apply ev_notV (K := K) | apply ev_if
  | apply ev_sl | apply evO_none | apply evO_some (K := K) | apply ev_rev | apply ev_bm1 | apply ev_bm0 | apply ev_dnew (K := K) | apply ev_disp (K := K) | apply ev_dget1 (K := K) | apply ev_dget2 (K := K) | apply ev_dinI (K := K) | apply ev_dninI (K := K) | apply ev_chainI (K := K)
  | apply ev_call | apply ev_call1
  | apply evD_nil | apply evD_cons | apply evA_nil | apply evA_x (K := K) | apply evPs_nil | apply evPs_cons
  | apply ev_dispN (K := K) | apply evPsN_nil | apply evPsN_cons | apply ev_ninN (K := K) | apply ev_ninR (K := K) | apply ev_dcR (K := K)
  | apply evT_val (K := K) | apply evT_B (K := K) | apply evT_and | apply evT_or | apply evT_not | apply evT_yes)
local macro_rules | `(tactic| k_dat 0 "vr") => `(tactic| first
  | ((with_reducible apply ev_var); (case h => apply Eq.refl)) | ((with_reducible apply ev_at); (case h => apply Eq.refl))
  | ((with_reducible apply x_augI); (case hi => decide); (case h0 => apply Eq.refl)))
local macro_rules | `(tactic| k_dat 0 "tg") => `(tactic| first
  | (with_reducible apply tg_name) | ((with_reducible apply tg_move); (case h => apply Eq.refl)) | ((with_reducible apply tg_tup); (case hn => rfl)) | (with_reducible apply tg_row) | (with_reducible apply tgs_nil) | (with_reducible apply tgs_consN))
local macro_rules | `(tactic| k_dat 0 "len") => `(tactic| ((first | apply lt_line | apply le_line); (try simp only [List.length_map, List.length_append, List.length_cons, List.length_nil, List.length_range]); omega))
local macro_rules | `(tactic| k_dat 0 "op") => `(tactic| first
  | ((with_reducible apply op_i0 (K := K)); (case h1 => k_dat 0 "rd"); (case h2 => k_dat 0 "rd"); (case hd => k_dat 0 "sc"))
  | ((with_reducible apply op_eqI (K := K)); (case h1 => k_dat 0 "rd"); (case h2 => k_dat 0 "rd")) | ((with_reducible apply op_neI (K := K)); (case h1 => k_dat 0 "rd"); (case h2 => k_dat 0 "rd"))
  | ((with_reducible apply op_eqS (K := K)); (case h1 => k_dat 0 "rd"); (case h2 => k_dat 0 "rd")) | ((with_reducible apply op_neS (K := K)); (case h1 => k_dat 0 "rd"); (case h2 => k_dat 0 "rd"))
  | ((with_reducible apply op_ixR0 (K := K)); (case h1 => k_dat 0 "rd"); (case h2 => k_dat 0 "rd")) | ((with_reducible apply op_ixR1 (K := K)); (case h1 => k_dat 0 "rd"); (case h2 => k_dat 0 "rd")) | ((with_reducible apply op_ixR2 (K := K)); (case h1 => k_dat 0 "rd"); (case h2 => k_dat 0 "rd"))
  | ((with_reducible apply un_i (K := K)); (case h1 => k_dat 0 "rd"); (case hd => k_dat 0 "sc"))
  | ((with_reducible apply un_len (K := K)); (case h => k_dat 0 "rdS")) | ((with_reducible apply un_list (K := K)); (case h => k_dat 0 "rdS")) | ((with_reducible apply un_tuple (K := K)); (case h => first | (apply rdS.l; k_dat 0 "rd") | (apply rdS.t; k_dat 0 "rd")))
  | ((with_reducible apply un_int (K := K)); (case h => k_dat 0 "rd")) | ((with_reducible apply un_lenD (K := K)); (case h => k_dat 0 "rdD")) | ((with_reducible apply un_listK (K := K)); (case h => k_dat 0 "rdD"))
  | ((with_reducible apply op_append (K := K)); (case hd => k_dat 0 "asD"); (case e => apply Eq.refl); (case hl => k_dat 0 "len"))
  | ((with_reducible apply op_cat_ (K := K)); (case h1 => k_dat 0 "rd"); (case h2 => k_dat 0 "rd"); (case hl => k_dat 0 "len"))
  | ((with_reducible apply op_max2 (K := K)); (case h1 => k_dat 0 "rd"); (case h2 => k_dat 0 "rd")) | ((with_reducible apply op_min2 (K := K)); (case h1 => k_dat 0 "rd"); (case h2 => k_dat 0 "rd"))
  | ((with_reducible apply sl_list_ (K := K)); (case h1 => k_dat 0 "rd")) | ((with_reducible apply sl_tup_ (K := K)); (case h1 => k_dat 0 "rd")))
local macro_rules | `(tactic| k_dat 0 "sp") => `(tactic| first
  | ((with_reducible (apply Exists.intro; apply And.intro)); (case left => with_reducible apply Eq.refl))
  | ((with_reducible (apply Exists.intro; apply And.intro)); (case left => first | k_dat 0 "rd" | k_dat 0 "rdD"))
  | ((with_reducible apply And.intro); (case left => (with_reducible apply Exists.intro); k_dat 0 "rdD"))
  | ((with_reducible (apply Exists.intro; apply Exists.intro; apply And.intro)); (case left => first | k_dat 0 "asD" | k_dat 0 "asX"))
  | ((with_reducible apply And.intro); (case left => apply len_le; apply Eq.refl))
  | ((with_reducible (apply Exists.intro (Sum.inl _); apply And.intro)); (case left => apply Eq.refl)) | ((with_reducible (apply Exists.intro (Sum.inr _); apply And.intro)); (case left => apply Eq.refl)))
local macro_rules | `(tactic| k_dat 0 "wk") => `(tactic| with_reducible first | apply x_forD (K := K) | apply x_lc (K := K) | apply wkD_list | apply wkD_tup | apply wkD_seq | apply wkD_rng1 | apply wkD_rng2 | apply wkD_str)
local macro_rules | `(tactic| k_dat 0 "ml1") => `(tactic| first | k_dat 0 "st" | k_dat 0 "ex" | k_dat 0 "wk" | k_dat 0 "vr" | k_dat 0 "tg" | k_dat 0 "op" | k_dat 0 "sp")
local macro_rules | `(tactic| k_dat 0 "ml") => `(tactic| repeat k_dat 0 "ml1")
local macro_rules | `(tactic| k_dat 0 "tx") => `(tactic| first
  | ((with_reducible apply op_inSign (K := K)); (case h1 => k_dat 0 "rd"); (case h2 => k_dat 0 "rd"))
  | ((with_reducible apply op_addS (K := K)); (case h1 => k_dat 0 "rd"); (case h2 => k_dat 0 "rd"))
  | ((with_reducible apply op_isN_ (K := K)); (case h1 => k_dat 0 "rd"); (case h2 => k_dat 0 "rd"))
  | ((with_reducible apply op_notN_ (K := K)); (case h1 => k_dat 0 "rd"); (case h2 => k_dat 0 "rd"))
  | ((with_reducible apply un_strI (K := K)); (case h => k_dat 0 "rd"))
  | ((with_reducible apply op_join_ (K := K)); (case h1 => k_dat 0 "rd"))
  | ((with_reducible apply op_split_ (K := K)); (case h1 => k_dat 0 "rd"); (case h2 => k_dat 0 "rd"))
  | with_reducible apply ev_m1 (K := K) | with_reducible apply ev_js (K := K) | with_reducible apply evJ_cons (K := K) | with_reducible apply evJ_nil)
local macro_rules | `(tactic| k_dat 0 "ml1") => `(tactic| first | k_dat 0 "st" | k_dat 0 "ex" | k_dat 0 "wk" | k_dat 0 "vr" | k_dat 0 "tg" | k_dat 0 "op" | k_dat 0 "sp" | k_dat 0 "tx")
def rightM (K : PySem.W.Frag) (C : Addr) : MSp := fun Rs q => ∃ (n : Nat) (R : List Row), Rs = [pu (chartP K C n R)] ∧ TOk n R ∧ q (dat K (.bool true)) []
theorem scRight : FnScope ["_law_code", "_law_due", "_law_made", "_law_told"] ["_law_code"] (defScope sRight) := ⟨rfl, rfl, rfl, by decide +kernel, rfl, by decide +kernel, by decide +kernel⟩
theorem ok_right {f fR fS fE C : Addr} {mc : Value} {pR : Addr} {fd fdR : FuncData} (G : Fun K "_law_right" "_law_right" sRight f fd) (T : CH.Blt2 mg) (CC : ChC K mg C)
    (RD1 : ClX.CRead K C mc) (RD2 : ClX.CMet K C mc "read" pR fR) (hRDg : FnG P w K mg base CX0 6 fR fdR ["cls", "text"] (spOf 0 (readM K C))) (hRD : FnGR P w K mg base 6 fR (spOf 0 (readM K C))) (hRDk : ∀ (s : Shared) (a u : Value), BindsTo s fdR ⟨[a], [("text", u)]⟩ ((["cls", "text"] : List Str).zip [a, u]))
    (hSTR : FnGR P w K mg base 1 fS (spOf 0 (strM K C))) (ST1 : PySem.W.findIn K (.ref C) "__str__" = some (some (.ref fS))) (ST2 : PySem.W.isFn K (.ref fS) = true)
    (hEQ : FnGR P w K mg base 1 fE (spOf 0 (eqM K C))) (EQ1 : PySem.W.findIn K (.ref C) "__eq__" = some (some (.ref fE))) (EQ2 : PySem.W.isFn K (.ref fE) = true)
    (h_law_written : HasM P w K mg base "_law_written" 1 ["_law_count", "_law_links"] (S_law_written K)) :
    FnG P w K mg base CX0 7 f fd ["_law_code"] (spOf 0 (rightM K C)) := by
  refine fn_ml G scRight (fun Rs q ⟨_, _, h, _⟩ => by rw [h]; rfl) (by decide) fun cdv A outer s H E hrG => ?_
  have hr := hrG.room
  have hu := hu_of hr
  have hu64 := hr.units
  refine ⟨_, (pss_cons (ps_set (i := 1) scRight.nd rfl (Or.inl rfl) (pe_hg h_law_written (hrG.mono (by decide)) rfl (pa_cons (pe_fld (pv 0) rfl) (pa_cons (pe_fld (pv 0) rfl) pa_nil))))
  (pss_cons (ps_if (pt_cmpR op_ne (pe_callB (cr_repr hrG.gd hu64) (by rfl) T.b_repr (by decide +kernel) (pa_cons (pe_lst (pa_cons (pe_callTy (call_strOwn hSTR (hrG.mono (by decide)) ST1 ST2) (by rfl) T.b_str (by decide +kernel) (pa_cons (pv 0) pa_nil)) (pa_cons (pe_callTy (call_strOwn hSTR (hrG.mono (by decide)) ST1 ST2) (by rfl) T.b_str (by decide +kernel) (pa_cons (pv 0) pa_nil)) pa_nil))) pa_nil)) (pe_callB (cr_repr hrG.gd hu64) (by rfl) T.b_repr (by decide +kernel) (pa_cons (pe_lst (pa_cons (pv 1) (pa_cons (pv 1) pa_nil))) pa_nil)) (nomark _))
    (pss_one (ps_ret pe_bl))
    pss_nil)
  (pss_cons (ps_for PassesOwn.never rfl (pi_tup (pe_tup (pa_cons (pe_cmethG (pe_glob (v := .ref C) rfl CC.mgC rfl) RD1 RD2 hRD (hrG.mono (by decide)) (pa_cons (pv 1) pa_nil)) (pa_cons (pe_cmethGK (pe_glob (v := .ref C) rfl CC.mgC rfl) RD1 RD2 hRDg (hrG.mono (by decide)) (pv 1) hRDk) pa_nil)))) (pg_name (i := 2) scRight.nd rfl (Or.inl rfl))
    (pss_cons (ps_set (i := 3) scRight.nd rfl (Or.inl rfl) (pe_lst (pa_cons (pe_fld (pv 2) rfl) (pa_cons (pe_fld (pv 2) rfl) (pa_cons (pe_callTy (call_strOwn hSTR (hrG.mono (by decide)) ST1 ST2) (by rfl) T.b_str (by decide +kernel) (pa_cons (pv 2) pa_nil)) pa_nil)))))
  (pss_one (ps_if (PW.pt (pw_or (pt_not (pt_cmpR (op_eqOwn hEQ (hrG.mono (by decide)) EQ1 EQ2) (pv 2) (pv 0) (nomark _))) (pw_or1 (pt_cmpR op_ne (pe_callB (cr_repr hrG.gd hu64) (by rfl) T.b_repr (by decide +kernel) (pa_cons (pv 3) pa_nil)) (pe_callB (cr_repr hrG.gd hu64) (by rfl) T.b_repr (by decide +kernel) (pa_cons (pe_lst (pa_cons (pe_fld (pv 0) rfl) (pa_cons (pe_fld (pv 0) rfl) (pa_cons (pv 1) pa_nil)))) pa_nil)) (nomark _)))))
    (pss_one (ps_ret pe_bl))
    pss_nil))))
  (pss_one (ps_ret pe_bl))))), ?_⟩
  rintro Rs q ⟨n, R, rfl, tok, hq⟩
  obtain ⟨hok, hn0, hn, hl, hR⟩ := id tok
  rw [outF_eq]
  try dsimp only [cxOf, Cx.nox, Cx.wish]
  show ML.ex 0 _ [some (pu (chartP K C n R)), none, none, none] _
  have hz := text_ok (n := n) hR
  have hzl : (textS n R).length ≤ 10000 := Nat.le_trans (text_len hn hR) (by omega)
  have sh2 := str2_shown hz hzl
  have hlb : ∀ r ∈ R, Lbl r := fun r hr => wok_lbl (hR r hr)
  have sh3 := trip_shown hn hR hl hz hzl
  k_dat 0 "ml"
  refine ev_states CC rfl ?_
  k_dat 0 "ml"
  refine ev_arrows CC rfl ?_
  k_dat 0 "ml"
  refine c_zero [_, _] ⟨n, R, rfl, hn, by omega, hR, ?_⟩
  k_dat 0 "ml"
  apply x_if
  k_dat 0 "ml"
  refine un_strOwn rfl chart_insA ⟨n, R, rfl, hn, by omega, hR, _, rfl, ?_⟩
  k_dat 0 "ml"
  refine un_strOwn rfl chart_insA ⟨n, R, rfl, hn, by omega, hR, _, rfl, ?_⟩
  k_dat 0 "ml"
  refine un_repr rd.own ⟨_, .inl rfl⟩ sh2.1 sh2.2.1 sh2.2.2 ?_
  k_dat 0 "ml"
  refine un_repr rd.own ⟨_, .inl rfl⟩ sh2.1 sh2.2.1 sh2.2.2 ?_
  k_dat 0 "ml"
  refine ⟨fun h => by simp at h, fun _ => ?_⟩
  apply x_next
  apply x_seq
  refine x_forPc (wkP_tup ?_)
  apply ev_tupP
  apply evA_pu
  refine ev_cmeth ?_
  k_dat 0 "ml"
  refine c_zero [_, _] ⟨n, R, rfl, tok, rfl, ?_⟩
  apply evA_pu
  refine ev_cmeth ?_
  k_dat 0 "ml"
  refine c_zero [_, _] ⟨n, R, rfl, tok, rfl, ?_⟩
  refine evA_nil ⟨[chartP K C n R, chartP K C n R], rfl, Nat.le_of_ble_eq_true rfl, _, rfl, fun ρ' => ∃ x2 x3, ρ' = [some (pu (chartP K C n R)), some (dat K (.str (textS n R))), x2, x3], ⟨_, _, rfl⟩, ?_, ?_⟩
  · rintro P hP ρ' ⟨x2, x3, rfl⟩
    obtain rfl : P = chartP K C n R := by simpa using hP
    refine ⟨[2], by decide, ?_⟩
    k_dat 0 "ml"
    refine ev_states CC rfl ?_
    k_dat 0 "ml"
    refine ev_arrows CC rfl ?_
    k_dat 0 "ml"
    refine un_strOwn rfl chart_insA ⟨n, R, rfl, hn, by omega, hR, _, rfl, ?_⟩
    k_dat 0 "ml"
    apply x_if
    k_dat 0 "ml"
    refine op_eqOwn_ rfl rfl (.inr chart_insA) chart_insA ⟨n, n, R, R, rfl, hlb, hlb, _, rfl, ?_⟩
    rw [decide_eq_true ⟨rfl, rfl⟩]
    k_dat 0 "ml"
    refine ⟨fun h => Bool.noConfusion h, fun _ => ?_⟩
    k_dat 0 "ml"
    refine un_repr (.slotL rfl) ⟨_, .inl rfl⟩ sh3.1 sh3.2.1 sh3.2.2 ?_
    k_dat 0 "ml"
    refine ev_states CC rfl ?_
    k_dat 0 "ml"
    refine ev_arrows CC rfl ?_
    k_dat 0 "ml"
    refine un_repr rd.own ⟨_, .inl rfl⟩ sh3.1 sh3.2.1 sh3.2.2 ?_
    k_dat 0 "ml"
    refine ⟨fun h => by simp at h, fun _ => ?_⟩
    k_dat 0 "ml"
    exact ⟨_, _, rfl⟩
  · rintro ρ' ⟨x2, x3, rfl⟩
    k_dat 0 "ml"
    exact ⟨_, [], ret_val rfl, hq⟩
end
end K24

/-! Plain Lean: the long charts of the law: a row of states, a star of arrows. -/
namespace K24
open PySem L2 KS GL LB
open PySem.Spec hiding Row
open TL (tl numL)
open CH (ChartOk labelB)
def letS : Str := "abcdefghijklmnopqrstuvwxyz"
def labK (k : Nat) : Str := (⟨#[97 + k % 26]⟩ : Str) ++ Txt.mul "q" ((k / 26 : Nat) : Int)
theorem labK_ok : ∀ k < 121, labelB (labK k) = true ∧ (tl (labK k)).length = 1 + k / 26 ∧ (tl (labK k))[0]? = some (97 + k % 26) := by decide +kernel
theorem letS_at : ∀ i < 26, (letS.cps.toList)[i]? = some (97 + i) := by decide +kernel
theorem labK_inj {i j : Nat} (hi : i < 121) (hj : j < 121) (h : labK i = labK j) : i = j := by
  obtain ⟨_, a, b⟩ := labK_ok i hi
  obtain ⟨_, c, d⟩ := labK_ok j hj
  rw [h] at a b
  have e1 : 1 + i / 26 = 1 + j / 26 := a.symm.trans c
  have e2 : 97 + i % 26 = 97 + j % 26 := Option.some.inj (b.symm.trans d)
  omega
def starR (m : Nat) : List Row := (List.range m).map fun k => ((0 : Int), labK k, (-1 : Int))
theorem star_nodup {m : Nat} (h : m < 122) : (starR m).Nodup := by
  unfold starR
  rw [List.nodup_iff_pairwise_ne, List.pairwise_map]
  refine List.Pairwise.imp_of_mem ?_ (List.nodup_iff_pairwise_ne.mp List.nodup_range)
  intro a b ha hb hne e
  have ha := List.mem_range.mp ha
  have hb := List.mem_range.mp hb
  simp only [Prod.mk.injEq, and_true, true_and] at e
  exact hne (labK_inj (by omega) (by omega) e)
theorem star_arr {m : Nat} (h : m < 122) : ∀ r ∈ starR m, ((0 ≤ r.1 ∧ r.1 < (1 : Nat)) ∧ (-1 ≤ r.2.2 ∧ r.2.2 < (1 : Nat)) ∧ labelB r.2.1 = true) := by
  intro r hr
  obtain ⟨k, hk, rfl⟩ := List.mem_map.mp hr
  have hk := List.mem_range.mp hk
  exact ⟨⟨Int.le_refl _, by show (0 : Int) < 1; decide⟩, ⟨Int.le_refl _, by show (-1 : Int) < 1; decide⟩, (labK_ok k (by omega)).1⟩
theorem star_gr {m : Nat} (h : m < 122) {R : List Row} (hR : ∀ r, r ∈ R ↔ r ∈ starR m) : GrOk R 1 := ⟨Nat.le_refl _, fun r hr => star_arr h r ((hR r).mp hr), fun m hm => by
  obtain rfl : m = 0 := by omega
  exact .refl⟩
theorem gr_wok {R : List Row} {n : Nat} (g : GrOk R n) (hn : n < 10 ^ 6) : ∀ r ∈ R, WOk r := fun r hr => by
  obtain ⟨⟨a, b⟩, ⟨c, d⟩, l⟩ := g.arr r hr
  exact ⟨⟨a, by omega⟩, l, ⟨c, by omega⟩⟩
/-- the row of states, while it grows -/
structure RowG (R : List Row) (k : Nat) : Prop where
  g : GrOk R (1 + k)
  lt : ∀ r ∈ R, r.1 < k
  pw : R.Pairwise rowLt
  len : R.length = k
theorem RowG.init : RowG [] 0 := ⟨GrOk.init, (fun _ h => nomatch h), List.Pairwise.nil, rfl⟩
theorem RowG.grow {R : List Row} {k : Nat} (h : RowG R k) {l : Str} (hl : labelB l = true) : RowG (R ++ [((k : Int), l, (k : Int) + 1)]) (k + 1) := by
  have g1 := h.g.grow (x := (k : Int)) (l := l) (by omega) (by omega) hl
  have e : ((1 + k : Nat) : Int) = (k : Int) + 1 := by omega
  rw [e] at g1
  refine ⟨by rw [show 1 + (k + 1) = 1 + k + 1 by omega]; exact g1, fun r hr => ?_, ?_, by rw [List.length_append, h.len]; rfl⟩
  · rcases List.mem_append.mp hr with hr | hr
    · have := h.lt r hr
      omega
    · rw [List.mem_singleton.mp hr]
      show (k : Int) < ((k + 1 : Nat) : Int)
      omega
  · rw [List.pairwise_append]
    refine ⟨h.pw, List.pairwise_singleton _ _, fun a ha b hb => ?_⟩
    rw [List.mem_singleton.mp hb]
    exact .inl (h.lt a ha)
theorem RowG.fin {R : List Row} {k : Nat} (h : RowG R k) {l : Str} (hl : labelB l = true) : GrOk (R ++ [((k : Int), l, (-1 : Int))]) (1 + k) ∧ (R ++ [((k : Int), l, (-1 : Int))]).Pairwise rowLt := by
  refine ⟨h.g.add ⟨⟨by show (0 : Int) ≤ k; omega, by show (k : Int) < _; omega⟩, ⟨Int.le_refl _, by show (-1 : Int) < _; omega⟩, hl⟩, ?_⟩
  rw [List.pairwise_append]
  refine ⟨h.pw, List.pairwise_singleton _ _, fun a ha b hb => ?_⟩
  rw [List.mem_singleton.mp hb]
  exact .inl (h.lt a ha)
end K24

/-! text * n, text[i]. -/
namespace LB
open PySem PySem.Spec PyProof.Rows L2 KS GL
def rMulS : R2 := fun x y H Q => ∃ i n, x = V.str i ∧ y = V.int n ∧ MulOk i n ∧ Q (.str (Txt.mul i n)) H
theorem op_mulS {X : Cx} : OpR X (binaryOp .Mult) rMulS := by
  intro pins s σ H x y v u Q I rx ry h
  obtain ⟨i, n, rfl, rfl, ok, q⟩ := h
  obtain ⟨t, rfl⟩ := rx
  obtain ⟨t', rfl⟩ := ry
  exact SB.mul ok fun t' tk => ⟨.str _, H, I.tok _, ⟨_, rfl⟩, q⟩
end LB
namespace ML
open PySem PySem.Spec PyProof.Rows L2 KS GL LB
section
variable {K : PySem.W.Frag} {ρ : MS} {Q : Rt → MS → Prop} {r1 r2 : Rt}
theorem op_mulS_ {z : Str} {n : Int} (h1 : rd K ρ r1 (.str z)) (h2 : rd K ρ r2 (.int n)) (ok : MulOk z n) (q : Q (.val (dat K (.str (Txt.mul z n)))) ρ) : opR rMulS r1 r2 ρ Q := by
  intro σ H0 H G v1 v2 f1 f2 k S e1 e2 _ _ _ hk
  obtain rfl := h1.str S e1
  obtain rfl := h2.int S e2
  exact ⟨z, n, rfl, rfl, ok, hk _ _ _ _ _ _ q (post_sc S (fun _ => .inl) (.str _))⟩
theorem op_ixS_ {z : Str} {i : Int} {c : Nat} (h1 : rd K ρ r1 (.str z)) (h2 : rd K ρ r2 (.int i)) (hl : z.length ≤ sizeLine) (he : atI z.cps.toList i = some c) (q : Q (.val (dat K (.str ⟨#[c]⟩))) ρ) : opR rIxS r1 r2 ρ Q := by
  intro σ H0 H G v1 v2 f1 f2 k S e1 e2 _ _ _ hk
  obtain rfl := h1.str S e1
  obtain rfl := h2.int S e2
  exact ⟨z, i, c, rfl, rfl, hl, he, hk _ _ _ _ _ _ q (post_sc S (fun _ => .inl) (.str _))⟩
end
end ML

/-! _law_long_right. -/
namespace K24
open PySem L2 KS GL LB K24m ML
open CH (outs sucs ChC ChartAt cf cf_arrows cf_states cf_no ChartOk spInit arrowB labelB ps_dead)
open PySem.Spec hiding Row
open PyProof.Rows hiding cnt
open TL (tl numL)
theorem mul_q : ∀ n < 5, MulOk ("q" : Str) ((n : Nat) : Int) ∧ (Txt.mul "q" ((n : Nat) : Int)).length ≤ 5 := by
  unfold MulOk
  decide +kernel
section
variable {P : Program} {w : World} {K : PySem.W.Frag} {mg : Str → Option Value} {base : Heap}
set_option hygiene false
local macro_rules | `(tactic| k_dat 0 "rd") => `(tactic| first | with_reducible apply rd.val | with_reducible apply rd.own | (apply rd.slot; apply Eq.refl) | (apply rd.slotL; apply Eq.refl))
local macro_rules | `(tactic| k_dat 0 "rdS") => `(tactic| first | with_reducible (apply rdS.l; apply rd.val) | with_reducible (apply rdS.t; apply rd.val) | with_reducible (apply rdS.l; apply rd.own) | (apply rdS.l; apply rd.slotL; apply Eq.refl) | (apply rdS.l; apply rd.slot; apply Eq.refl) | (apply rdS.t; apply rd.slot; apply Eq.refl))
local macro_rules | `(tactic| k_dat 0 "rdD") => `(tactic| first | with_reducible apply rdD.val | with_reducible apply rdD.own | (apply rdD.slot; apply Eq.refl) | (apply rdD.slotP; apply Eq.refl))
local macro_rules | `(tactic| k_dat 0 "sc") => `(tactic| first | apply Sc.int | apply Sc.bl | apply Sc.str | apply Sc.non)
local macro_rules | `(tactic| k_dat 0 "asD") => `(tactic| first | with_reducible apply asD.val | with_reducible apply asD.own | (apply asD.slot; apply Eq.refl))
local macro_rules | `(tactic| k_dat 0 "asX") => `(tactic| first | with_reducible apply asX.pure | with_reducible apply asX.own | (apply asX.slot; apply Eq.refl) | with_reducible apply asX.keep)
local macro_rules | `(tactic| k_dat 0 "nf") => `(tactic| first | (conv => arg 3; dsimp only [wipeM, List.set, List.map]) | skip)
local macro_rules | `(tactic| k_dat 0 "eq") => `(tactic| first | (dsimp only [wipeM, List.set, List.map]; done) | (dsimp only [wipeM, List.set, List.map]; apply Eq.refl) | apply Eq.refl)
local macro_rules | `(tactic| k_dat 0 "st") => `(tactic| first
  | ((with_reducible apply x_seq); k_dat 0 "nf") | ((with_reducible apply x_parT2); (case hi => omega); (case hj => omega)) | ((with_reducible apply x_asg2); (case hi => omega); (case hj => omega)) | ((with_reducible apply x_asg3); (case hi => omega); (case hj => omega); (case hl => omega)) | ((with_reducible apply x_par4); (case hi => omega); (case hj => omega); (case hk => omega); (case hl => omega)) | ((with_reducible apply x_par2); (case hij => omega); (case hi => omega); (case hj => omega)) | with_reducible first | (apply x_asg; case hl => decide) | apply x_drop | apply x_ret | apply x_next | apply x_break | apply x_cont
  | apply x_dput (K := K) | apply x_putN (K := K) | apply x_retN)
local macro_rules | `(tactic| k_dat 0 "ex") => `(tactic| with_reducible first
  | apply ev_int (K := K) | apply ev_str (K := K) | apply ev_bl (K := K) | apply ev_non (K := K)
  | apply ev_tup (K := K) | apply ev_lst (K := K) | apply ev_op | apply ev_un | apply ev_sset_rows (K := K) | apply ev_sset_ints (K := K) | apply ev_cb1 | apply ev_cb2 | apply ev_andV (K := K) | apply ev_orV (K := K) | apply ev_notV (K := K) | apply ev_if
  | apply ev_sl | apply evO_none | apply evO_some (K := K) | apply ev_rev | apply ev_bm1 | apply ev_bm0 | apply ev_dnew (K := K) | apply ev_disp (K := K) | apply ev_dget1 (K := K) | apply ev_dget2 (K := K) | apply ev_dinI (K := K) | apply ev_dninI (K := K) | apply ev_chainI (K := K)
  | apply ev_call | apply ev_call1
  | apply evD_nil | apply evD_cons | apply evA_nil | apply evA_x (K := K) | apply evPs_nil | apply evPs_cons
  | apply ev_dispN (K := K) | apply evPsN_nil | apply evPsN_cons | apply ev_ninN (K := K) | apply ev_ninR (K := K) | apply ev_dcR (K := K)
  | apply evT_val (K := K) | apply evT_B (K := K) | apply evT_and | apply evT_or | apply evT_not | apply evT_yes)
local macro_rules | `(tactic| k_dat 0 "vr") => `(tactic| first
  | ((with_reducible apply ev_var); (case h => apply Eq.refl)) | ((with_reducible apply ev_at); (case h => apply Eq.refl))
  | ((with_reducible apply x_augI); (case hi => decide); (case h0 => apply Eq.refl)))
local macro_rules | `(tactic| k_dat 0 "tg") => `(tactic| first
  | (with_reducible apply tg_name) | ((with_reducible apply tg_move); (case h => apply Eq.refl)) | ((with_reducible apply tg_tup); (case hn => rfl)) | (with_reducible apply tg_row) | (with_reducible apply tgs_nil) | (with_reducible apply tgs_consN))
local macro_rules | `(tactic| k_dat 0 "len") => `(tactic| ((first | apply lt_line | apply le_line); (try simp only [List.length_map, List.length_append, List.length_cons, List.length_nil, List.length_range]); omega))
local macro_rules | `(tactic| k_dat 0 "op") => `(tactic| first
  | ((with_reducible apply op_i0 (K := K)); (case h1 => k_dat 0 "rd"); (case h2 => k_dat 0 "rd"); (case hd => k_dat 0 "sc"))
  | ((with_reducible apply op_eqI (K := K)); (case h1 => k_dat 0 "rd"); (case h2 => k_dat 0 "rd")) | ((with_reducible apply op_neI (K := K)); (case h1 => k_dat 0 "rd"); (case h2 => k_dat 0 "rd"))
  | ((with_reducible apply op_eqS (K := K)); (case h1 => k_dat 0 "rd"); (case h2 => k_dat 0 "rd")) | ((with_reducible apply op_neS (K := K)); (case h1 => k_dat 0 "rd"); (case h2 => k_dat 0 "rd"))
  | ((with_reducible apply op_ixR0 (K := K)); (case h1 => k_dat 0 "rd"); (case h2 => k_dat 0 "rd")) | ((with_reducible apply op_ixR1 (K := K)); (case h1 => k_dat 0 "rd"); (case h2 => k_dat 0 "rd")) | ((with_reducible apply op_ixR2 (K := K)); (case h1 => k_dat 0 "rd"); (case h2 => k_dat 0 "rd"))
  | ((with_reducible apply un_i (K := K)); (case h1 => k_dat 0 "rd"); (case hd => k_dat 0 "sc"))
  | ((with_reducible apply un_len (K := K)); (case h => k_dat 0 "rdS")) | ((with_reducible apply un_list (K := K)); (case h => k_dat 0 "rdS")) | ((with_reducible apply un_tuple (K := K)); (case h => first | (apply rdS.l; k_dat 0 "rd") | (apply rdS.t; k_dat 0 "rd")))
  | ((with_reducible apply un_int (K := K)); (case h => k_dat 0 "rd")) | ((with_reducible apply un_lenD (K := K)); (case h => k_dat 0 "rdD")) | ((with_reducible apply un_listK (K := K)); (case h => k_dat 0 "rdD"))
  | ((with_reducible apply op_append (K := K)); (case hd => k_dat 0 "asD"); (case e => apply Eq.refl); (case hl => k_dat 0 "len"))
  | ((with_reducible apply op_cat_ (K := K)); (case h1 => k_dat 0 "rd"); (case h2 => k_dat 0 "rd"); (case hl => k_dat 0 "len"))
  | ((with_reducible apply op_max2 (K := K)); (case h1 => k_dat 0 "rd"); (case h2 => k_dat 0 "rd")) | ((with_reducible apply op_min2 (K := K)); (case h1 => k_dat 0 "rd"); (case h2 => k_dat 0 "rd"))
  | ((with_reducible apply sl_list_ (K := K)); (case h1 => k_dat 0 "rd")) | ((with_reducible apply sl_tup_ (K := K)); (case h1 => k_dat 0 "rd")))
local macro_rules | `(tactic| k_dat 0 "sp") => `(tactic| first
  | ((with_reducible (apply Exists.intro; apply And.intro)); (case left => with_reducible apply Eq.refl))
  | ((with_reducible (apply Exists.intro; apply And.intro)); (case left => first | k_dat 0 "rd" | k_dat 0 "rdD"))
  | ((with_reducible apply And.intro); (case left => (with_reducible apply Exists.intro); k_dat 0 "rdD"))
  | ((with_reducible (apply Exists.intro; apply Exists.intro; apply And.intro)); (case left => first | k_dat 0 "asD" | k_dat 0 "asX"))
  | ((with_reducible apply And.intro); (case left => apply len_le; apply Eq.refl))
  | ((with_reducible (apply Exists.intro (Sum.inl _); apply And.intro)); (case left => apply Eq.refl)) | ((with_reducible (apply Exists.intro (Sum.inr _); apply And.intro)); (case left => apply Eq.refl)))
local macro_rules | `(tactic| k_dat 0 "wk") => `(tactic| with_reducible first | apply x_forD (K := K) | apply x_lc (K := K) | apply wkD_list | apply wkD_tup | apply wkD_seq | apply wkD_rng1 | apply wkD_rng2 | apply wkD_str)
local macro_rules | `(tactic| k_dat 0 "ml1") => `(tactic| first | k_dat 0 "st" | k_dat 0 "ex" | k_dat 0 "wk" | k_dat 0 "vr" | k_dat 0 "tg" | k_dat 0 "op" | k_dat 0 "sp")
local macro_rules | `(tactic| k_dat 0 "ml") => `(tactic| repeat k_dat 0 "ml1")
local macro_rules | `(tactic| k_dat 0 "tx") => `(tactic| first
  | ((with_reducible apply op_inSign (K := K)); (case h1 => k_dat 0 "rd"); (case h2 => k_dat 0 "rd"))
  | ((with_reducible apply op_addS (K := K)); (case h1 => k_dat 0 "rd"); (case h2 => k_dat 0 "rd"))
  | ((with_reducible apply op_isN_ (K := K)); (case h1 => k_dat 0 "rd"); (case h2 => k_dat 0 "rd"))
  | ((with_reducible apply op_notN_ (K := K)); (case h1 => k_dat 0 "rd"); (case h2 => k_dat 0 "rd"))
  | ((with_reducible apply un_strI (K := K)); (case h => k_dat 0 "rd"))
  | ((with_reducible apply op_join_ (K := K)); (case h1 => k_dat 0 "rd"))
  | ((with_reducible apply op_split_ (K := K)); (case h1 => k_dat 0 "rd"); (case h2 => k_dat 0 "rd"))
  | with_reducible apply ev_m1 (K := K) | with_reducible apply ev_js (K := K) | with_reducible apply evJ_cons (K := K) | with_reducible apply evJ_nil)
local macro_rules | `(tactic| k_dat 0 "ml1") => `(tactic| first | k_dat 0 "st" | k_dat 0 "ex" | k_dat 0 "wk" | k_dat 0 "vr" | k_dat 0 "tg" | k_dat 0 "op" | k_dat 0 "sp" | k_dat 0 "tx")
def longM (K : PySem.W.Frag) (C : Addr) : MSp := fun Rs q => ∃ n, Rs = [deck n] ∧ n < 2 ^ 38 ∧ ∀ m, q (dat K (.bool true)) [deck m]
theorem scLongRight : FnScope ["_law_deck_here", "_law_letters", "_law_many", "_law_row", "_law_k", "_law_star", "_law_count", "_law_links", "_law_due", "_law_made"] ["_law_deck_here"] (defScope sLongRight) := ⟨rfl, rfl, rfl, by decide +kernel, rfl, by decide +kernel, by decide +kernel⟩
theorem ok_longRight {f fR fS C : Addr} {mc : Value} {pR : Addr} {fd fdR : FuncData} (G : Fun K "_law_long_right" "_law_long_right" sLongRight f fd) (T : CH.Blt2 mg) (CC : ChC K mg C)
    (RD1 : ClX.CRead K C mc) (RD2 : ClX.CMet K C mc "read" pR fR) (hRDg : FnG P w K mg base CX0 6 fR fdR ["cls", "text"] (spOf 0 (readM K C))) (hRD : FnGR P w K mg base 6 fR (spOf 0 (readM K C))) (hRDk : ∀ (s : Shared) (a u : Value), BindsTo s fdR ⟨[a], [("text", u)]⟩ ((["cls", "text"] : List Str).zip [a, u]))
    (hSTR : FnGR P w K mg base 1 fS (spOf 0 (strM K C))) (ST1 : PySem.W.findIn K (.ref C) "__str__" = some (some (.ref fS))) (ST2 : PySem.W.isFn K (.ref fS) = true)
    (h_law_written : HasM P w K mg base "_law_written" 1 ["_law_count", "_law_links"] (S_law_written K)) (h_law_draw : HasM P w K mg base "_law_draw" 1 ["_law_deck_here", "_law_many"] (S_law_draw K)) (h_law_word : HasM P w K mg base "_law_word" 3 ["_law_deck_here"] (S_law_word K)) :
    FnG P w K mg base CX0 7 f fd ["_law_deck_here"] (spOf 1 (longM K C)) := by
  refine fn_ml G scLongRight (fun Rs q ⟨_, h, _⟩ => by rw [h]; rfl) (by decide) fun cdv A outer s H E hrG => ?_
  have hr := hrG.room
  have hu := hu_of hr
  have hu64 := hr.units
  refine ⟨_, (pss_cons (ps_asg (pe_tup (pa_cons pe_str (pa_cons (pe_op op_add pe_int (pe_hg h_law_draw (hrG.mono (by decide)) rfl (pa_cons (pv 0) (pa_cons pe_int pa_nil)))) pa_nil))) (pg_tup (n := 2) rfl (pgs_cons (pg_name (i := 1) scLongRight.nd rfl (Or.inr rfl)) (pgs_cons (pg_name (i := 2) scLongRight.nd rfl (Or.inl rfl)) pgs_nil))))
  (pss_cons (ps_set (i := 3) scLongRight.nd rfl (Or.inl rfl) (pe_op op_cat (pe_lc (own := [("_law_k", 4)]) (g := gName 4) (tt := tYes) (te := (tTup (tCons (tVar 4) (tCons (tCall (S_law_word K) [] E0 (tCons (tVar 0) tNil)) (tCons (tOp _ (tVar 4) _) tNil))))) rfl scLongRight.nd (pi_range1 (by rfl) T.b_range (pa_cons (pe_op op_sub (pv 2) pe_int) pa_nil)) (blkOk_by (own := [("_law_k", 4)]) (N := ["_law_deck_here", "_law_letters", "_law_many", "_law_row", "_law_k", "_law_star", "_law_count", "_law_links", "_law_due", "_law_made"]) (sc := defScope sLongRight) (by decide +kernel)) (fun _ _ _ _ _ => (pg_name (i := 4) scLongRight.nd rfl (by first | exact Or.inl rfl | exact Or.inr rfl))) (fun _ _ _ _ _ => pts_nil) (fun _ _ _ _ _ => (pe_tup (pa_cons (pv 4) (pa_cons (pe_hg h_law_word (hrG.mono (by decide)) rfl (pa_cons (pv 0) pa_nil)) (pa_cons (pe_op op_add (pv 4) pe_int) pa_nil)))))) (pe_lst (pa_cons (pe_tup (pa_cons (pe_op op_sub (pv 2) pe_int) (pa_cons pe_str (pa_cons (pe_op op_sub pe_int pe_int) pa_nil)))) pa_nil))))
  (pss_cons (ps_setLc (i := 5) (own := [("_law_k", 4)]) (g := gName 4) (tt := tYes) (te := (tTup (tCons _ (tCons (tOp _ (tOp rIxS (tVar 1) (tOp _ (tCB _ (tCons (tVar 4) tNil)) _)) (tOp rMulS _ (tOp _ (tVar 4) _))) (tCons _ tNil))))) rfl scLongRight.nd rfl rfl (sw_true rfl rfl rfl (by decide +kernel)) (pi_range1 (by rfl) T.b_range (pa_cons (pe_op op_add pe_int (pe_hg h_law_draw (hrG.mono (by decide)) rfl (pa_cons (pv 0) (pa_cons pe_int pa_nil)))) pa_nil)) (blkOk_by (own := [("_law_k", 4)]) (N := ["_law_deck_here", "_law_letters", "_law_many", "_law_row", "_law_k", "_law_star", "_law_count", "_law_links", "_law_due", "_law_made"]) (sc := defScope sLongRight) (by decide +kernel)) (fun _ _ _ _ _ => (pg_name (i := 4) scLongRight.nd rfl (by first | exact Or.inl rfl | exact Or.inr rfl))) (fun _ _ _ _ _ => pts_nil) (fun _ _ _ _ _ => (pe_tup (pa_cons pe_int (pa_cons (pe_op op_add_str (pe_ix ix_str (pv 1) (pe_op op_mod (pe_callTy call_int1 (by rfl) T.b_int (by decide +kernel) (pa_cons (pv 4) pa_nil)) pe_int) (fun _ _ => rfl)) (pe_op op_mulS pe_str (pe_op op_fdiv (pv 4) pe_int))) (pa_cons (pe_op op_sub pe_int pe_int) pa_nil))))))
  (pss_cons (ps_for PassesOwn.never rfl (pi_tup (pe_tup (pa_cons (pe_tup (pa_cons (pv 2) (pa_cons (pe_callTy call_tupQ (by rfl) T.b_tuple (by decide +kernel) (pa_cons (pv 3) pa_nil)) pa_nil))) (pa_cons (pe_tup (pa_cons pe_int (pa_cons (pe_callTy call_tupQ (by rfl) T.b_tuple (by decide +kernel) (pa_cons (pe_callB (cr_sortedD hu64) (by rfl) T.b_sorted (by decide +kernel) (pa_cons (pv 5) pa_nil)) pa_nil)) pa_nil))) pa_nil)))) (pg_tup (n := 2) rfl (pgs_cons (pg_name (i := 6) scLongRight.nd rfl (Or.inl rfl)) (pgs_cons (pg_name (i := 7) scLongRight.nd rfl (Or.inl rfl)) pgs_nil)))
    (pss_cons (ps_set (i := 8) scLongRight.nd rfl (Or.inl rfl) (pe_hg h_law_written (hrG.mono (by decide)) rfl (pa_cons (pv 6) (pa_cons (pv 7) pa_nil))))
  (pss_one (ps_for PassesOwn.never rfl (pi_tup (pe_tup (pa_cons (pe_cmethG (pe_glob (v := .ref C) rfl CC.mgC rfl) RD1 RD2 hRD (hrG.mono (by decide)) (pa_cons (pv 8) pa_nil)) (pa_cons (pe_cmethGK (pe_glob (v := .ref C) rfl CC.mgC rfl) RD1 RD2 hRDg (hrG.mono (by decide)) (pv 8) hRDk) pa_nil)))) (pg_name (i := 9) scLongRight.nd rfl (Or.inl rfl))
    (pss_one (ps_if (PW.pt (pw_or (pt_cmpR op_ne (pe_callB (cr_repr hrG.gd hu64) (by rfl) T.b_repr (by decide +kernel) (pa_cons (pe_lst (pa_cons (pe_fld (pv 9) rfl) (pa_cons (pe_fld (pv 9) rfl) pa_nil))) pa_nil)) (pe_callB (cr_repr hrG.gd hu64) (by rfl) T.b_repr (by decide +kernel) (pa_cons (pe_lst (pa_cons (pv 6) (pa_cons (pv 7) pa_nil))) pa_nil)) (nomark _)) (pw_or1 (PW.pt (pw_and (pt_cmpR op_lt (pv 6) pe_int (nomark _)) (pw_and1 (pt_cmpR op_ne (pe_callTy (call_strOwn hSTR (hrG.mono (by decide)) ST1 ST2) (by rfl) T.b_str (by decide +kernel) (pa_cons (pv 9) pa_nil)) (pv 8) (nomark _))))))))
    (pss_one (ps_ret pe_bl))
    pss_nil))))))
  (pss_one (ps_ret pe_bl)))))), ?_⟩
  rintro Rs q ⟨n, rfl, hn, hq⟩
  rw [outF_eq]
  try dsimp only [cxOf, Cx.nox, Cx.wish]
  show ML.ex 1 _ [some (deck n), none, none, none, none, none, none, none, none, none] _
  k_dat 0 "ml"
  refine c_draw rfl (by omega) (by omega) (by omega) fun t0 t00 t01 => ?_
  obtain ⟨m, rfl⟩ : ∃ m : Nat, t0 = (m : Int) := ⟨t0.toNat, by omega⟩
  k_dat 0 "ml"
  refine ⟨by omega, by omega, ?_⟩
  refine lc_pre (List.range ((13 : Int) + m - 1).toNat) _ rfl (by rw [List.length_range]; omega) (fun pre acc ρ' => ∃ R : List Row, acc = R.map rowD ∧ RowG R pre.length ∧ ρ' = [some (deck (n + 1 + pre.length)), some (dat K (.str letS)), some (dat K (.int (13 + m))), none, none, none, none, none, none, none]) ⟨[], rfl, RowG.init, rfl⟩ ?_ ?_
  · rintro pre x post acc ρ' epre ⟨R, rfl, rg, rfl⟩
    have hpl : pre.length < 13 + m - 1 ∧ x = pre.length := by
      have h1 := congrArg List.length epre
      have h2 : (List.range ((13 : Int) + m - 1).toNat)[pre.length]? = some x := by rw [epre]; simp
      simp at h1
      have h3 : pre.length < ((13 : Int) + m - 1).toNat := by omega
      rw [List.getElem?_range h3] at h2
      exact ⟨by omega, (Option.some.inj h2).symm⟩
    obtain ⟨hp1, rfl⟩ := hpl
    refine ⟨[4], by decide, ?_⟩
    k_dat 0 "ml"
    refine ⟨fun _ => ?_, fun h => Bool.noConfusion h⟩
    k_dat 0 "ml"
    refine c_word rfl (by omega) fun l hl => ?_
    k_dat 0 "ml"
    refine ⟨R ++ [((pre.length : Int), l, (pre.length : Int) + 1)], by rw [List.map_append]; rfl, ?_, ?_⟩
    · rw [List.length_append]
      exact rg.grow (word_ok l hl).2.2
    · rw [List.length_append]
      rfl
  · rintro acc ρ' ⟨R, rfl, rg, rfl⟩
    rw [List.length_range] at rg
    obtain ⟨k, ek⟩ : ∃ k : Nat, (13 : Int) + m - 1 = k := ⟨12 + m, by omega⟩
    rw [ek, Int.toNat_natCast] at rg
    rw [List.length_range, ek, Int.toNat_natCast]
    have hk : k = 12 + m := by omega
    k_dat 0 "ml"
    refine op_cat_ rd.own rd.own (le_line (by rw [List.length_map, rg.len]; show k + 1 ≤ _; omega)) ?_
    rw [ek]
    obtain ⟨rgr, rpw⟩ := rg.fin (l := "z") (by decide +kernel)
    rw [show R.map rowD ++ [PyData.tuple [.int k, .str "z", .int (0 - 1)]] = (R ++ [((k : Int), ("z" : Str), (-1 : Int))]).map rowD by rw [List.map_append]; rfl]
    have rlen : (R ++ [((k : Int), ("z" : Str), (-1 : Int))]).length = k + 1 := by rw [List.length_append, rg.len]; rfl
    generalize (R ++ [((k : Int), ("z" : Str), (-1 : Int))]) = RR at rgr rpw rlen
    have tokR : TOk (1 + k) RR := ⟨rgr.chart (ord_rows rpw), by omega, by omega, by omega, gr_wok rgr (by omega)⟩
    k_dat 0 "ml"
    refine c_draw rfl (by omega) (by omega) (by omega) fun t1 t10 t11 => ?_
    obtain ⟨m2, rfl⟩ : ∃ m2 : Nat, t1 = (m2 : Int) := ⟨t1.toNat, by omega⟩
    k_dat 0 "ml"
    refine ⟨by omega, by omega, ?_⟩
    refine lc_fm (List.range ((31 : Int) + m2).toNat) _ rfl (by rw [List.length_range]; omega) (fun _ => true) (fun k => rowD (0, labK k, -1)) (fun x hx => ⟨[4], by decide, ?_⟩) ?_
    · have hx := List.mem_range.mp hx
      k_dat 0 "ml"
      refine ⟨fun _ => ?_, fun h => Bool.noConfusion h⟩
      k_dat 0 "ml"
      refine op_iC rd.val rd.val (by decide) (.int _) ?_
      rw [show (x : Int) % 26 = ((x % 26 : Nat) : Int) by omega]
      refine op_ixS_ rd.val rd.val (by decide +kernel) (c := 97 + x % 26) (atI_nat (letS_at _ (Nat.mod_lt _ (by decide)))) ?_
      k_dat 0 "ml"
      refine op_iC rd.val rd.val ⟨by decide, by decide⟩ (.int _) ?_
      rw [show (x : Int) / 26 = ((x / 26 : Nat) : Int) by omega]
      have hq := mul_q (x / 26) (by omega)
      refine op_mulS_ rd.val rd.val hq.1 ?_
      k_dat 0 "ml"
      · refine le_line (Nat.le_trans (Nat.add_le_add (Nat.le_refl 1) hq.2) (by decide))
      k_dat 0 "ml"
      exact ⟨rfl, rfl, by k_dat 0 "eq"⟩
    · rw [List.filter_eq_self.mpr fun _ _ => rfl]
      k_dat 0 "ml"
      rw [show (List.range ((31 : Int) + m2).toNat).map (fun k => rowD (0, labK k, -1)) = (starR ((31 : Int) + m2).toNat).map rowD by unfold starR; rw [List.map_map]; rfl]
      generalize em : ((31 : Int) + m2).toNat = m3
      have hm3 : m3 < 122 := by omega
      refine un_sorted (ds := (starR m3).map rowD) (rd.slotL rfl) (rows_alike _) (rows_sortable _) (rows_dep _) fun ds' hp hw => ?_
      obtain ⟨SR, rfl, hmp⟩ := perm_map_inv hp rfl
      rw [List.pairwise_map] at hw
      have hmem : ∀ r, r ∈ SR ↔ r ∈ starR m3 := fun r => hmp.mem_iff
      have sR := strict_rows hw (hmp.nodup_iff.mpr (star_nodup hm3))
      have sgr := star_gr hm3 hmem
      have slen : SR.length = m3 := by rw [hmp.length_eq]; unfold starR; rw [List.length_map, List.length_range]
      have tokS : TOk 1 SR := ⟨sgr.chart (ord_rows sR), by decide, by decide, by omega, gr_wok sgr (by decide)⟩
      k_dat 0 "ml"
      rw [show (13 : Int) + m = ((1 + k : Nat) : Int) by omega]
      generalize starR m3 = SS
      generalize n + 1 + k + 1 = N
      refine for_pre [((1 + k : Nat), RR), ((1 : Nat), SR)] (fun p => PyData.tuple [.int (p.1 : Nat), .tuple (p.2.map rowD)]) rfl (fun _ ρ' => ∃ x6 x7 x8 x9, ρ' = [some (deck N), some (dat K (.str letS)), some (dat K (.int ((1 + k : Nat) : Int))), some (ML.lo K (RR.map rowD)), none, some (ML.lo K (SS.map rowD)), x6, x7, x8, x9]) ⟨_, _, _, _, rfl⟩ ?_ ?_
      · rintro pre ⟨c, R⟩ post ρ' epre ⟨x6, x7, x8, x9, rfl⟩
        have tok : TOk c R := by
          have hm : (c, R) ∈ [((1 + k : Nat), RR), ((1 : Nat), SR)] := by rw [epre]; exact List.mem_append_right _ List.mem_cons_self
          simp only [List.mem_cons, List.not_mem_nil, or_false, Prod.mk.injEq] at hm
          rcases hm with ⟨rfl, rfl⟩ | ⟨rfl, rfl⟩
          · exact tokR
          · exact tokS
        obtain ⟨hok, hn0, hn6, hl, hR⟩ := id tok
        have hz := text_ok (n := c) hR
        have shp := pair_shown hn6 hR hl
        refine ⟨[6, 7], by decide, ?_⟩
        k_dat 0 "ml"
        refine c_zero [_, _] ⟨c, R, rfl, hn6, by omega, hR, ?_⟩
        refine tg_name ?_
        refine x_forPc (wkP_tup ?_)
        apply ev_tupP
        apply evA_pu
        refine ev_cmeth ?_
        k_dat 0 "ml"
        refine c_zero [_, _] ⟨c, R, rfl, tok, rfl, ?_⟩
        apply evA_pu
        refine ev_cmeth ?_
        k_dat 0 "ml"
        refine c_zero [_, _] ⟨c, R, rfl, tok, rfl, ?_⟩
        refine evA_nil ⟨[chartP K C c R, chartP K C c R], rfl, Nat.le_of_ble_eq_true rfl, _, rfl, fun ρ' => ∃ x9, ρ' = [some (deck N), some (dat K (.str letS)), some (dat K (.int ((1 + k : Nat) : Int))), some (ML.lo K (RR.map rowD)), none, some (ML.lo K (SS.map rowD)), some (dat K (.int c)), some (dat K (.tuple (R.map rowD))), some (dat K (.str (textS c R))), x9], ⟨_, rfl⟩, ?_, ?_⟩
        · rintro P hP ρ' ⟨x9, rfl⟩
          obtain rfl : P = chartP K C c R := by simpa using hP
          refine ⟨[9], by decide, ?_⟩
          k_dat 0 "ml"
          apply x_if
          k_dat 0 "ml"
          refine ev_states CC rfl ?_
          k_dat 0 "ml"
          refine ev_arrows CC rfl ?_
          k_dat 0 "ml"
          refine un_repr rd.own ⟨_, .inl rfl⟩ shp.1 shp.2.1 shp.2.2 ?_
          k_dat 0 "ml"
          refine un_repr rd.own ⟨_, .inl rfl⟩ shp.1 shp.2.1 shp.2.2 ?_
          k_dat 0 "ml"
          refine ⟨fun h => by simp at h, fun _ => ?_⟩
          k_dat 0 "ml"
          refine ⟨fun _ => ?_, fun _ => ?_⟩
          · k_dat 0 "ml"
            refine un_strOwn rfl chart_insA ⟨c, R, rfl, hn6, by omega, hR, _, rfl, ?_⟩
            k_dat 0 "ml"
            refine ⟨fun h => by simp at h, fun _ => ?_⟩
            k_dat 0 "ml"
            exact ⟨_, rfl⟩
          · refine ⟨fun h => Bool.noConfusion h, fun _ => ?_⟩
            k_dat 0 "ml"
            exact ⟨_, rfl⟩
        · rintro ρ' ⟨x9, rfl⟩
          exact ⟨_, _, _, _, rfl⟩
      · rintro ρ' ⟨x6, x7, x8, x9, rfl⟩
        k_dat 0 "ml"
        exact ⟨_, _, ret_val rfl, hq _⟩
end
end K24

/-! The law itself. -/
namespace K24
open PySem L2 KS GL LB K24m ML
open CH (outs sucs ChC ChartAt cf cf_arrows cf_states cf_no ChartOk spInit arrowB labelB ps_dead)
open PySem.Spec hiding Row
open PyProof.Rows hiding cnt
theorem arr_of {size : Nat} {R : List Row} (ok : ChartOk size R) : ∀ x ∈ R, CH.labelB x.2.1 = true ∧ 0 ≤ x.1 ∧ x.1 < size ∧ -1 ≤ x.2.2 ∧ x.2.2 < size := fun x hx => by
  have h := ok.arr x hx
  unfold arrowB at h
  simp only [Bool.and_eq_true, decide_eq_true_eq] at h
  exact ⟨h.1.1, h.1.2.1, h.1.2.2, h.2.1, h.2.2⟩
theorem pw_nodup {R : List Row} (sR : R.Pairwise rowLt) : R.Nodup := List.Pairwise.imp (R := rowLt) (S := fun a b => a ≠ b) (fun {a b} h e => rowLt_irrefl a (by rw [← e] at h; exact h)) sR
theorem near_le {n : Nat} {R : List Row} {st : Int} {near : List Int} (ok : ChartOk n R) (N : Near R st near) (h1 : st < n) : near.length ≤ n := by
  have h := KS.nodup_leK near ((List.range n).map fun i : Nat => (i : Int)) (near_nodup N) fun x hx => by
    have hp := N.pos x hx
    have hlt : x < n := by
      have h := (N.mem x).mp hx
      cases h with
      | refl => omega
      | step _ hz =>
        obtain ⟨_, l, hr⟩ := mem_sucs.mp hz
        exact (arr_of ok _ hr).2.2.2.2
    exact List.mem_map.mpr ⟨x.toNat, List.mem_range.mpr (by omega), by omega⟩
  rwa [List.length_map, List.length_range] at h
theorem tok_of {n : Nat} {R : List Row} (ok : ChartOk n R) (hn : n < 10 ^ 6) (hl : R.length ≤ 200) : TOk n R := ⟨ok, ok.pos, hn, hl, fun r hr => by
  obtain ⟨a, b, c, d, e⟩ := arr_of ok r hr
  exact ⟨⟨b, by omega⟩, a, ⟨d, by omega⟩⟩⟩
/-- charts of the law -/
def chsP (K : PySem.W.Frag) (C : Addr) (cs : List (Nat × List Row)) : List Pd := cs.map fun c => chartP K C c.1 c.2
section
variable {K : PySem.W.Frag} {ρ : MS} {Q : Rt → MS → Prop} {r1 r2 : Rt}
theorem op_neB {x y : Bool} (h1 : rd K ρ r1 (.bool x)) (h2 : rd K ρ r2 (.bool y)) (q : Q (.val (dat K (.bool (!(x == y))))) ρ) : opR rNe r1 r2 ρ Q :=
  op_sc h1 h2 (fun H v1 v2 k e1 e2 hk => by
    cases e1
    cases e2
    exact ⟨rfl, by rw [dec_bl]; exact hk _ (.bl _)⟩) q
end
section
variable {P : Program} {w : World} {K : PySem.W.Frag} {mg : Str → Option Value} {base : Heap}
set_option hygiene false
local macro_rules | `(tactic| k_dat 0 "rd") => `(tactic| first | with_reducible apply rd.val | with_reducible apply rd.own | (apply rd.slot; apply Eq.refl) | (apply rd.slotL; apply Eq.refl))
local macro_rules | `(tactic| k_dat 0 "rdS") => `(tactic| first | with_reducible (apply rdS.l; apply rd.val) | with_reducible (apply rdS.t; apply rd.val) | with_reducible (apply rdS.l; apply rd.own) | (apply rdS.l; apply rd.slotL; apply Eq.refl) | (apply rdS.l; apply rd.slot; apply Eq.refl) | (apply rdS.t; apply rd.slot; apply Eq.refl))
local macro_rules | `(tactic| k_dat 0 "rdD") => `(tactic| first | with_reducible apply rdD.val | with_reducible apply rdD.own | (apply rdD.slot; apply Eq.refl) | (apply rdD.slotP; apply Eq.refl))
local macro_rules | `(tactic| k_dat 0 "sc") => `(tactic| first | apply Sc.int | apply Sc.bl | apply Sc.str | apply Sc.non)
local macro_rules | `(tactic| k_dat 0 "asD") => `(tactic| first | with_reducible apply asD.val | with_reducible apply asD.own | (apply asD.slot; apply Eq.refl))
local macro_rules | `(tactic| k_dat 0 "asX") => `(tactic| first | with_reducible apply asX.pure | with_reducible apply asX.own | (apply asX.slot; apply Eq.refl) | with_reducible apply asX.keep)
local macro_rules | `(tactic| k_dat 0 "nf") => `(tactic| first | (conv => arg 3; dsimp only [wipeM, List.set, List.map]) | skip)
local macro_rules | `(tactic| k_dat 0 "eq") => `(tactic| first | (dsimp only [wipeM, List.set, List.map]; done) | (dsimp only [wipeM, List.set, List.map]; apply Eq.refl) | apply Eq.refl)
local macro_rules | `(tactic| k_dat 0 "st") => `(tactic| first
  | ((with_reducible apply x_seq); k_dat 0 "nf") | ((with_reducible apply x_parT2); (case hi => omega); (case hj => omega)) | ((with_reducible apply x_asg2); (case hi => omega); (case hj => omega)) | ((with_reducible apply x_asg3); (case hi => omega); (case hj => omega); (case hl => omega)) | ((with_reducible apply x_par4); (case hi => omega); (case hj => omega); (case hk => omega); (case hl => omega)) | ((with_reducible apply x_par2); (case hij => omega); (case hi => omega); (case hj => omega)) | with_reducible first | (apply x_asg; case hl => decide) | apply x_drop | apply x_ret | apply x_next | apply x_break | apply x_cont
  | apply x_dput (K := K) | apply x_putN (K := K) | apply x_retN)
local macro_rules | `(tactic| k_dat 0 "ex") => `(tactic| with_reducible first
  | apply ev_int (K := K) | apply ev_str (K := K) | apply ev_bl (K := K) | apply ev_non (K := K)
  | apply ev_tup (K := K) | apply ev_lst (K := K) | apply ev_op | apply ev_un | apply ev_sset_rows (K := K) | apply ev_sset_ints (K := K) | apply ev_cb1 | apply ev_cb2 | apply ev_andV (K := K) | apply ev_orV (K := K) | apply ev_notV (K := K) | apply ev_if
  | apply ev_sl | apply evO_none | apply evO_some (K := K) | apply ev_rev | apply ev_bm1 | apply ev_bm0 | apply ev_dnew (K := K) | apply ev_disp (K := K) | apply ev_dget1 (K := K) | apply ev_dget2 (K := K) | apply ev_dinI (K := K) | apply ev_dninI (K := K) | apply ev_chainI (K := K)
  | apply ev_call | apply ev_call1
  | apply evD_nil | apply evD_cons | apply evA_nil | apply evA_x (K := K) | apply evPs_nil | apply evPs_cons
  | apply ev_dispN (K := K) | apply evPsN_nil | apply evPsN_cons | apply ev_ninN (K := K) | apply ev_ninR (K := K) | apply ev_dcR (K := K)
  | apply evT_val (K := K) | apply evT_B (K := K) | apply evT_and | apply evT_or | apply evT_not | apply evT_yes)
local macro_rules | `(tactic| k_dat 0 "vr") => `(tactic| first
  | ((with_reducible apply ev_var); (case h => apply Eq.refl)) | ((with_reducible apply ev_at); (case h => apply Eq.refl))
  | ((with_reducible apply x_augI); (case hi => decide); (case h0 => apply Eq.refl)))
local macro_rules | `(tactic| k_dat 0 "tg") => `(tactic| first
  | (with_reducible apply tg_name) | ((with_reducible apply tg_move); (case h => apply Eq.refl)) | ((with_reducible apply tg_tup); (case hn => rfl)) | (with_reducible apply tg_row) | (with_reducible apply tgs_nil) | (with_reducible apply tgs_consN))
local macro_rules | `(tactic| k_dat 0 "len") => `(tactic| ((first | apply lt_line | apply le_line); (try simp only [List.length_map, List.length_append, List.length_cons, List.length_nil, List.length_range]); omega))
local macro_rules | `(tactic| k_dat 0 "op") => `(tactic| first
  | ((with_reducible apply op_i0 (K := K)); (case h1 => k_dat 0 "rd"); (case h2 => k_dat 0 "rd"); (case hd => k_dat 0 "sc"))
  | ((with_reducible apply op_eqI (K := K)); (case h1 => k_dat 0 "rd"); (case h2 => k_dat 0 "rd")) | ((with_reducible apply op_neI (K := K)); (case h1 => k_dat 0 "rd"); (case h2 => k_dat 0 "rd"))
  | ((with_reducible apply op_eqS (K := K)); (case h1 => k_dat 0 "rd"); (case h2 => k_dat 0 "rd")) | ((with_reducible apply op_neS (K := K)); (case h1 => k_dat 0 "rd"); (case h2 => k_dat 0 "rd"))
  | ((with_reducible apply op_ixR0 (K := K)); (case h1 => k_dat 0 "rd"); (case h2 => k_dat 0 "rd")) | ((with_reducible apply op_ixR1 (K := K)); (case h1 => k_dat 0 "rd"); (case h2 => k_dat 0 "rd")) | ((with_reducible apply op_ixR2 (K := K)); (case h1 => k_dat 0 "rd"); (case h2 => k_dat 0 "rd"))
  | ((with_reducible apply un_i (K := K)); (case h1 => k_dat 0 "rd"); (case hd => k_dat 0 "sc"))
  | ((with_reducible apply un_len (K := K)); (case h => k_dat 0 "rdS")) | ((with_reducible apply un_list (K := K)); (case h => k_dat 0 "rdS")) | ((with_reducible apply un_tuple (K := K)); (case h => first | (apply rdS.l; k_dat 0 "rd") | (apply rdS.t; k_dat 0 "rd")))
  | ((with_reducible apply un_int (K := K)); (case h => k_dat 0 "rd")) | ((with_reducible apply un_lenD (K := K)); (case h => k_dat 0 "rdD")) | ((with_reducible apply un_listK (K := K)); (case h => k_dat 0 "rdD"))
  | ((with_reducible apply op_append (K := K)); (case hd => k_dat 0 "asD"); (case e => apply Eq.refl); (case hl => k_dat 0 "len"))
  | ((with_reducible apply op_cat_ (K := K)); (case h1 => k_dat 0 "rd"); (case h2 => k_dat 0 "rd"); (case hl => k_dat 0 "len"))
  | ((with_reducible apply op_max2 (K := K)); (case h1 => k_dat 0 "rd"); (case h2 => k_dat 0 "rd")) | ((with_reducible apply op_min2 (K := K)); (case h1 => k_dat 0 "rd"); (case h2 => k_dat 0 "rd"))
  | ((with_reducible apply sl_list_ (K := K)); (case h1 => k_dat 0 "rd")) | ((with_reducible apply sl_tup_ (K := K)); (case h1 => k_dat 0 "rd")))
local macro_rules | `(tactic| k_dat 0 "sp") => `(tactic| first
  | ((with_reducible (apply Exists.intro; apply And.intro)); (case left => with_reducible apply Eq.refl))
  | ((with_reducible (apply Exists.intro; apply And.intro)); (case left => first | k_dat 0 "rd" | k_dat 0 "rdD"))
  | ((with_reducible apply And.intro); (case left => (with_reducible apply Exists.intro); k_dat 0 "rdD"))
  | ((with_reducible (apply Exists.intro; apply Exists.intro; apply And.intro)); (case left => first | k_dat 0 "asD" | k_dat 0 "asX"))
  | ((with_reducible apply And.intro); (case left => apply len_le; apply Eq.refl))
  | ((with_reducible (apply Exists.intro (Sum.inl _); apply And.intro)); (case left => apply Eq.refl)) | ((with_reducible (apply Exists.intro (Sum.inr _); apply And.intro)); (case left => apply Eq.refl)))
local macro_rules | `(tactic| k_dat 0 "wk") => `(tactic| with_reducible first | apply x_forD (K := K) | apply x_lc (K := K) | apply wkD_list | apply wkD_tup | apply wkD_seq | apply wkD_rng1 | apply wkD_rng2 | apply wkD_str)
local macro_rules | `(tactic| k_dat 0 "ml1") => `(tactic| first | k_dat 0 "st" | k_dat 0 "ex" | k_dat 0 "wk" | k_dat 0 "vr" | k_dat 0 "tg" | k_dat 0 "op" | k_dat 0 "sp")
local macro_rules | `(tactic| k_dat 0 "ml") => `(tactic| repeat k_dat 0 "ml1")
local macro_rules | `(tactic| k_dat 0 "tx") => `(tactic| first
  | ((with_reducible apply op_inSign (K := K)); (case h1 => k_dat 0 "rd"); (case h2 => k_dat 0 "rd"))
  | ((with_reducible apply op_addS (K := K)); (case h1 => k_dat 0 "rd"); (case h2 => k_dat 0 "rd"))
  | ((with_reducible apply op_isN_ (K := K)); (case h1 => k_dat 0 "rd"); (case h2 => k_dat 0 "rd"))
  | ((with_reducible apply op_notN_ (K := K)); (case h1 => k_dat 0 "rd"); (case h2 => k_dat 0 "rd"))
  | ((with_reducible apply un_strI (K := K)); (case h => k_dat 0 "rd"))
  | ((with_reducible apply op_join_ (K := K)); (case h1 => k_dat 0 "rd"))
  | ((with_reducible apply op_split_ (K := K)); (case h1 => k_dat 0 "rd"); (case h2 => k_dat 0 "rd"))
  | with_reducible apply ev_m1 (K := K) | with_reducible apply ev_js (K := K) | with_reducible apply evJ_cons (K := K) | with_reducible apply evJ_nil)
local macro_rules | `(tactic| k_dat 0 "ml1") => `(tactic| first | k_dat 0 "st" | k_dat 0 "ex" | k_dat 0 "wk" | k_dat 0 "vr" | k_dat 0 "tg" | k_dat 0 "op" | k_dat 0 "sp" | k_dat 0 "tx")
abbrev S_law_deck (K : PySem.W.Frag) : Sp := spOf 0 (deckM K)
theorem scLaw : FnScope ["_law_script", "_law_deck_here", "_law_known", "_law_turn", "_law_count", "_law_links", "_law_code", "_law_mate"] ["_law_script"] (defScope sLaw) := ⟨rfl, rfl, rfl, by decide +kernel, rfl, by decide +kernel, by decide +kernel⟩
theorem ok_law2 {f fI fB fE fS C : Addr} {fd fdI : FuncData} (G : Fun K "law" "law" sLaw f fd) (T : CH.Blt2 mg) (CC : ChC K mg C) (CM : Mk K C fI) (CI : FnOk P w K mg base CX0 4 fI fdI ["self", "states", "arrows"] (spInit K C)) (CB : Binds K fdI ["self", "states", "arrows"] [])
    (hm_begun_at : Meth K C "begun_at" fB) (hr_begun_at : FnGR P w K mg base 7 fB (spOf 0 (begunAtM K C)))
    (hSTR : FnGR P w K mg base 1 fS (spOf 0 (strM K C))) (ST1 : PySem.W.findIn K (.ref C) "__str__" = some (some (.ref fS))) (ST2 : PySem.W.isFn K (.ref fS) = true)
    (hEQ : FnGR P w K mg base 1 fE (spOf 0 (eqM K C))) (EQ1 : PySem.W.findIn K (.ref C) "__eq__" = some (some (.ref fE))) (EQ2 : PySem.W.isFn K (.ref fE) = true)
    (h_law_deck : HasM P w K mg base "_law_deck" 1 ["_law_script"] (S_law_deck K)) (h_law_draw : HasM P w K mg base "_law_draw" 1 ["_law_deck_here", "_law_many"] (S_law_draw K)) (h_law_pick : HasM P w K mg base "_law_pick" 2 ["_law_deck_here", "_law_some"] (S_law_pick K)) (h_law_plan : HasM P w K mg base "_law_plan" 4 ["_law_deck_here", "_law_top"] (S_law_plan K))
    (h_law_right : HasM P w K mg base "_law_right" 7 ["_law_code"] (spOf 0 (rightM K C))) (h_law_long_right : HasM P w K mg base "_law_long_right" 7 ["_law_deck_here"] (spOf 1 (longM K C))) :
    FnG P w K mg base CX0 8 f fd ["_law_script"] (spOf 0 (lawM K)) := by
  refine fn_ml G scLaw (fun Rs q ⟨_, h, _⟩ => by rw [h]; rfl) (by decide) fun cdv A outer s H E hrG => ?_
  have hr := hrG.room
  have hu := hu_of hr
  have hu64 := hr.units
  have hrI : Room 5 _ := hr.mono (by decide)
  refine ⟨_, (pss_cons (ps_par (i := 1) (j := 2) rfl scLaw.nd rfl rfl (by decide) rfl rfl (pa_cons (pe_hg h_law_deck (hrG.mono (by decide)) rfl (pa_cons (pv 0) pa_nil)) (pa_cons (pe_lst (pa_cons (pe_make CM CI hrI rfl CC.mgC CB .nil pass0 (pa_cons pe_int (pa_cons (pe_tup pa_nil) pa_nil))) pa_nil)) pa_nil)) (by rfl))
  (pss_cons (ps_for PassesOwn.never rfl (pi_range1 (by rfl) T.b_range (pa_cons pe_int pa_nil)) (pg_name (i := 3) scLaw.nd rfl (Or.inl rfl))
    (pss_cons (ps_asg (pe_hg h_law_plan (hrG.mono (by decide)) rfl (pa_cons (pv 1) (pa_cons (pe_hg h_law_pick (hrG.mono (by decide)) rfl (pa_cons (pv 1) (pa_cons (pe_lst (pa_cons pe_int (pa_cons pe_int (pa_cons pe_int (pa_cons pe_int pa_nil))))) pa_nil))) pa_nil))) (pg_tup (n := 2) rfl (pgs_cons (pg_name (i := 4) scLaw.nd rfl (Or.inl rfl)) (pgs_cons (pg_name (i := 5) scLaw.nd rfl (Or.inl rfl)) pgs_nil))))
  (pss_cons (ps_set (i := 6) scLaw.nd rfl (Or.inl rfl) (pe_make CM CI hrI rfl CC.mgC CB .nil pass0 (pa_cons (pv 4) (pa_cons (pv 5) pa_nil))))
  (pss_one (ps_set (i := 2) scLaw.nd rfl (Or.inl rfl) (pe_op op_cat (pv 2) (pe_lst (pa_cons (pv 6) (pa_cons (pe_methG (pv 6) CC.cl hm_begun_at hr_begun_at (hrG.mono (by decide)) (pa_cons (pe_hg h_law_draw (hrG.mono (by decide)) rfl (pa_cons (pv 1) (pa_cons (pv 4) pa_nil))) pa_nil)) pa_nil)))))))))
  (pss_cons (ps_for PassesOwn.never rfl (pi_list (pv 2)) (pg_name (i := 6) scLaw.nd rfl (Or.inl rfl))
    (pss_cons (ps_if (pt_not (pt_val (pe_hg h_law_right (hrG.mono (by decide)) rfl (pa_cons (pv 6) pa_nil))))
    (pss_one (ps_ret pe_bl))
    pss_nil)
  (pss_one (ps_for PassesOwn.never rfl (pi_list (pv 2)) (pg_name (i := 7) scLaw.nd rfl (Or.inl rfl))
    (pss_one (ps_if (pt_cmpR op_ne (pe_cmpR (op_eqOwn hEQ (hrG.mono (by decide)) EQ1 EQ2) (pv 6) (pv 7) (nomark _)) (pe_cmpR op_eq (pe_callTy (call_strOwn hSTR (hrG.mono (by decide)) ST1 ST2) (by rfl) T.b_str (by decide +kernel) (pa_cons (pv 6) pa_nil)) (pe_callTy (call_strOwn hSTR (hrG.mono (by decide)) ST1 ST2) (by rfl) T.b_str (by decide +kernel) (pa_cons (pv 7) pa_nil)) (nomark _)) (nomark _))
    (pss_one (ps_ret pe_bl))
    pss_nil))))))
  (pss_one (ps_ret (pe_hg h_law_long_right (hrG.mono (by decide)) rfl (pa_cons (pv 1) pa_nil))))))), ?_⟩
  rintro Rs q ⟨ns, rfl, hns, hq⟩
  rw [outF_eq]
  try dsimp only [cxOf, Cx.nox, Cx.wish]
  show ML.ex 0 _ [some (pu (scriptP K ns)), none, none, none, none, none, none, none] _
  apply x_seq
  refine x_par2 (by decide) (by decide) (by decide) ?_
  k_dat 0 "ml"
  refine c_zero [_] ⟨ns, rfl, ?_⟩
  apply ev_lstP
  refine evA_pu (P := chartP K C 1 []) ?_
  apply ev_make (K := K)
  k_dat 0 "ml"
  refine ⟨1, [], rfl, by decide, GrOk.init.chart (fun i h => absurd h (Nat.not_lt_zero _)), rfl, ?_⟩
  refine evA_nil ⟨[chartP K C 1 []], rfl, Nat.le_of_ble_eq_true rfl, _, rfl, _, rfl, ?_⟩
  apply x_seq
  k_dat 0 "ml"
  refine ⟨by decide, by decide, ?_⟩
  refine for_pre (List.range 5) _ rfl (fun pre ρ' => ∃ (m : Nat) (cs : List (Nat × List Row)) (x3 x4 x5 x6 : Option Res), ρ' = [some (pu (scriptP K ns)), some (deck m), some (pu (seqP false (chsP K C cs))), x3, x4, x5, x6, none] ∧ m ≤ 1000 * pre.length ∧ cs.length = 1 + 2 * pre.length ∧ ∀ c ∈ cs, TOk c.1 c.2) ⟨0, [(1, [])], none, none, none, none, rfl, Nat.le_refl _, rfl, ?_⟩ ?_ ?_
  · intro c hc
    rw [List.mem_singleton.mp hc]
    exact tok_of (GrOk.init.chart (fun i h => absurd h (Nat.not_lt_zero _))) (by decide) (by decide)
  · rintro pre x post ρ' epre ⟨m, cs, x3, x4, x5, x6, rfl, hm, hcl, hcs⟩
    have hpl : pre.length < 5 := by
      have := congrArg List.length epre
      simp at this
      omega
    refine ⟨[3], by decide, ?_⟩
    k_dat 0 "ml"
    refine c_pickL rfl (by decide) (by decide) (by omega) fun d hd => ?_
    obtain ⟨top, rfl, ht1, ht2⟩ : ∃ top : Nat, d = .int top ∧ 1 ≤ top ∧ top ≤ 12 := by
      simp only [List.mem_cons, List.not_mem_nil, or_false] at hd
      rcases hd with rfl | rfl | rfl | rfl
      · exact ⟨1, rfl, by decide, by decide⟩
      · exact ⟨3, rfl, by decide, by decide⟩
      · exact ⟨6, rfl, by decide, by decide⟩
      · exact ⟨12, rfl, by decide, by decide⟩
    k_dat 0 "ml"
    apply c_one [_] (Eq.refl _)
    refine ⟨m + 1, top, rfl, by omega, ht1, ht2, fun m1 size R hm1 hs hl hw gr sR => ⟨_, rfl, ?_⟩⟩
    have ok : ChartOk size R := gr.chart (ord_rows sR)
    have har := arr_of ok
    have hnd := pw_nodup sR
    have hpos := ok.pos
    k_dat 0 "ml"
    apply ev_make (K := K)
    k_dat 0 "ml"
    refine ⟨size, R, rfl, by omega, ok, ?_⟩
    refine tg_name ?_
    refine x_asg (ev_op (ev_var rfl ?_)) (by decide)
    apply ev_lstP
    refine evA_pu (P := chartP K C size R) (ev_var rfl ⟨rfl, ?_⟩)
    apply evA_cons
    apply ev_methG
    refine ev_var rfl ⟨_, rfl, chart_ins (by decide +kernel) (by decide +kernel) (by decide +kernel), ?_⟩
    k_dat 0 "ml"
    refine c_draw rfl (by omega) (by omega) (by omega) fun st st0 st1 => ?_
    k_dat 0 "ml"
    refine c_zero [_, _] ⟨size, R, st, rfl, by omega, hnd, st0, fun r hr => ⟨(har r hr).1, (har r hr).2.1, (har r hr).2.2.2.1⟩, fun near R' N B => ?_⟩
    have okB := beg_chart N B fun r hr => (har r hr).1
    have hBl := beg_len N B
    have hnl := near_le ok N (by omega)
    refine evA_nil ⟨[chartP K C size R, chartP K C near.length R'], rfl, Nat.le_of_ble_eq_true rfl, ?_⟩
    refine op_catP rfl rfl (by unfold chsP; rw [List.length_map, hcl]; show _ + 2 ≤ _; omega) ?_
    refine tg_name ?_
    refine ⟨m1 + 1, cs ++ [(size, R), (near.length, R')], some (dat K (.int x)), some (dat K (.int size)), some (dat K (.tuple (R.map rowD))), some (pu (chartP K C size R)), ?_, ?_, ?_, ?_⟩
    · unfold chsP
      rw [List.map_append]
      rfl
    · rw [List.length_append]
      show m1 + 1 ≤ 1000 * (pre.length + 1)
      omega
    · rw [List.length_append, List.length_append, hcl]
      show 1 + 2 * pre.length + 2 = 1 + 2 * (pre.length + 1)
      omega
    · intro c hc
      rcases List.mem_append.mp hc with hc | hc
      · exact hcs c hc
      · simp only [List.mem_cons, List.not_mem_nil, or_false] at hc
        rcases hc with rfl | rfl
        · exact tok_of ok (by show size < _; omega) (by show R.length ≤ _; omega)
        · exact tok_of okB (by show near.length < _; omega) (by show R'.length ≤ _; omega)
  · rintro ρ' ⟨m, cs, x3, x4, x5, x6, rfl, hm, hcl, hcs⟩
    rw [List.length_range] at hm
    have inP : ∀ P ∈ chsP K C cs, ∃ c ∈ cs, P = chartP K C c.1 c.2 := fun P hP => by
      obtain ⟨c, hc, e⟩ := List.mem_map.mp hP
      exact ⟨c, hc, e.symm⟩
    apply x_seq
    refine x_forPc (wkP_list (ev_var rfl ⟨chsP K C cs, rfl, fun ρ' => ∃ x3 x4 x5 x6 x7, ρ' = [some (pu (scriptP K ns)), some (deck m), some (pu (seqP false (chsP K C cs))), x3, x4, x5, x6, x7], ⟨_, _, _, _, _, rfl⟩, ?_, ?_⟩))
    · rintro P hP ρ' ⟨y3, y4, y5, y6, y7, rfl⟩
      obtain ⟨⟨n, R⟩, hc, rfl⟩ := inP P hP
      have tok := hcs _ hc
      refine ⟨[6], by decide, tg_name ?_⟩
      refine x_seq (x_if (evT_not (evT_B (K := K) ?_)))
      k_dat 0 "ml"
      refine c_zero [_] ⟨n, R, rfl, tok, ?_⟩
      refine ⟨true, rfl, fun h => Bool.noConfusion h, fun _ => ?_⟩
      refine x_next ?_
      refine x_forPc (wkP_list (ev_var rfl ⟨chsP K C cs, rfl, fun ρ' => ∃ x7, ρ' = [some (pu (scriptP K ns)), some (deck m), some (pu (seqP false (chsP K C cs))), y3, y4, y5, some (pu (chartP K C n R)), x7], ⟨_, rfl⟩, ?_, ?_⟩))
      · rintro P2 hP2 ρ' ⟨z7, rfl⟩
        obtain ⟨⟨n', R'⟩, hc', rfl⟩ := inP P2 hP2
        have tok' := hcs _ hc'
        have l1 : R.length ≤ 200 := tok.len
        have l2 : R'.length ≤ 200 := tok'.len
        refine ⟨[7], by decide, tg_name ?_⟩
        refine x_if (evT_val (K := K) (ev_op (ev_op (ev_var rfl (ev_var rfl ?_)))))
        refine op_eqOwn_ rfl rfl (.inr chart_insA) chart_insA ⟨n, n', R, R', rfl, fun r hr => wok_lbl (tok.row r hr), fun r hr => wok_lbl (tok'.row r hr), _, rfl, ?_⟩
        k_dat 0 "ml"
        refine un_strOwn rfl chart_insA ⟨n, R, rfl, tok.n6, by omega, tok.row, _, rfl, ?_⟩
        k_dat 0 "ml"
        refine un_strOwn rfl chart_insA ⟨n', R', rfl, tok'.n6, by omega, tok'.row, _, rfl, ?_⟩
        k_dat 0 "ml"
        refine op_neB rd.val rd.val ?_
        rw [show decide (textS n R = textS n' R') = decide (n = n' ∧ R = R') from decide_eq_decide.mpr (text_inj tok.row tok'.row), beq_self_eq_true]
        refine ⟨_, rfl, fun h => Bool.noConfusion h, fun _ => ?_⟩
        exact x_next ⟨_, rfl⟩
      · rintro ρ' ⟨z7, rfl⟩
        exact ⟨_, _, _, _, _, rfl⟩
    · rintro ρ' ⟨y3, y4, y5, y6, y7, rfl⟩
      k_dat 0 "ml"
      apply c_one [] (Eq.refl _)
      refine ⟨m, rfl, by omega, fun m' => ⟨_, rfl, ?_⟩⟩
      exact ⟨_, [], ret_val rfl, hq⟩
end
end K24

namespace K24
open PySem L2 KS GL LB K24m
open ML
open PySem.Spec hiding Row
open PyProof.Rows hiding cnt
/-! ### what the top has written -/
theorem all_mk {l : PySem.W.OpenLaw} {w : World} {K : PySem.W.Frag} {h : Heap} {mg : Str → Option Value} {fa f1 f2 f3 f4 f5 f6 f7 f8 f9 f10 f11 f12 f13 f14 f15 f16 f17 f18 f19 f20 f21 f22 f23 f24 f25 CChart aTRESERVED : Addr} (X : K.In h) (G : h.Ns mainGlobals mg) (hfa : mg "law" = some (.ref fa))
    {od1 an1 od2 an2 od3 an3 od4 an4 od5 an5 od6 an6 od7 an7 od8 an8 od9 an9 od10 an10 od11 an11 od12 an12 od13 an13 od14 an14 od15 an15 od16 an16 od17 an17 od18 an18 od19 an19 od20 an20 od21 an21 od22 an22 od23 an23 od24 an24 od25 an25 : Option Addr} {sl1 sl2 sl3 sl4 sl5 sl6 sl7 sl8 sl9 sl10 sl11 sl12 sl13 sl14 sl15 sl16 sl17 sl18 sl19 sl20 sl21 sl22 sl23 sl24 sl25 : Array (Option Value)} {oc1 kV1 dc1 pm1 cd1 ct1 oc2 kV2 dc2 pm2 cd2 ct2 oc3 kV3 dc3 pm3 cd3 ct3 oc4 kV4 dc4 pm4 cd4 ct4 oc5 kV5 dc5 pm5 cd5 ct5 oc6 kV6 dc6 pm6 cd6 ct6 oc7 kV7 dc7 pm7 cd7 ct7 oc8 kV8 dc8 pm8 cd8 ct8 oc9 kV9 dc9 pm9 cd9 ct9 oc10 kV10 dc10 pm10 cd10 ct10 oc11 kV11 dc11 pm11 cd11 ct11 oc12 kV12 dc12 pm12 cd12 ct12 oc13 kV13 dc13 pm13 cd13 ct13 oc14 kV14 dc14 pm14 cd14 ct14 oc15 kV15 dc15 pm15 cd15 ct15 oc16 kV16 dc16 pm16 cd16 ct16 oc17 kV17 dc17 pm17 cd17 ct17 oc18 kV18 dc18 pm18 cd18 ct18 oc19 kV19 dc19 pm19 cd19 ct19 oc20 kV20 dc20 pm20 cd20 ct20 oc21 kV21 dc21 pm21 cd21 ct21 oc22 kV22 dc22 pm22 cd22 ct22 oc23 kV23 dc23 pm23 cd23 ct23 oc24 kV24 dc24 pm24 cd24 ct24 oc25 kV25 dc25 pm25 cd25 ct25 : Value} {tk1 tk2 tk3 tk4 tk5 tk6 tk7 : Tok}
    {odTRESERVED : Option Addr} {itTRESERVED : Array Value} {nTRESERVED : Nat} {slTRESERVED : Array (Option Value)}
    {p15 : Addr} {rs15 : List Value}
    (gCChart : PySem.W.nsIn K mainGlobals "Chart" = some (some (.ref CChart)))
    (a1 : PySem.W.nsIn K mainGlobals "is_label" = some (some (.ref f1)))
    (l1 : K.lookup f1 = some ⟨oc1, od1, .func (PySem.W.fnOf "is_label" "is_label" (defArgs CH.sLabel) (defBody CH.sLabel) (defScope CH.sLabel) .none kV1 dc1 pm1 an1 cd1 ct1), sl1⟩)
    (c1 : PySem.W.codeIn K cd1 "is_label" = true)
    (k1 : PySem.W.keepIn K (.ref f1) = true)
    (a2 : PySem.W.nsIn K mainGlobals "is_integer" = some (some (.ref f2)))
    (l2 : K.lookup f2 = some ⟨oc2, od2, .func (PySem.W.fnOf "is_integer" "is_integer" (defArgs CH.sInt) (defBody CH.sInt) (defScope CH.sInt) .none kV2 dc2 pm2 an2 cd2 ct2), sl2⟩)
    (c2 : PySem.W.codeIn K cd2 "is_integer" = true)
    (k2 : PySem.W.keepIn K (.ref f2) = true)
    (a3 : PySem.W.nsIn K mainGlobals "is_arrow" = some (some (.ref f3)))
    (l3 : K.lookup f3 = some ⟨oc3, od3, .func (PySem.W.fnOf "is_arrow" "is_arrow" (defArgs CH.sArrow) (defBody CH.sArrow) (defScope CH.sArrow) .none kV3 dc3 pm3 an3 cd3 ct3), sl3⟩)
    (c3 : PySem.W.codeIn K cd3 "is_arrow" = true)
    (k3 : PySem.W.keepIn K (.ref f3) = true)
    (a4 : PySem.W.nsIn K mainGlobals "steps_by_source" = some (some (.ref f4)))
    (l4 : K.lookup f4 = some ⟨oc4, od4, .func (PySem.W.fnOf "steps_by_source" "steps_by_source" (defArgs CH.sSteps) (defBody CH.sSteps) (defScope CH.sSteps) .none kV4 dc4 pm4 an4 cd4 ct4), sl4⟩)
    (c4 : PySem.W.codeIn K cd4 "steps_by_source" = true)
    (k4 : PySem.W.keepIn K (.ref f4) = true)
    (a5 : PySem.W.nsIn K mainGlobals "reached_from" = some (some (.ref f5)))
    (l5 : K.lookup f5 = some ⟨oc5, od5, .func (PySem.W.fnOf "reached_from" "reached_from" (defArgs CH.sReached) (defBody CH.sReached) (defScope CH.sReached) .none kV5 dc5 pm5 an5 cd5 ct5), sl5⟩)
    (c5 : PySem.W.codeIn K cd5 "reached_from" = true)
    (k5 : PySem.W.keepIn K (.ref f5) = true)
    (a6 : PySem.W.nsIn K mainGlobals "least_lacking" = some (some (.ref f6)))
    (l6 : K.lookup f6 = some ⟨oc6, od6, .func (PySem.W.fnOf "least_lacking" "least_lacking" (defArgs CH.sLeast) (defBody CH.sLeast) (defScope CH.sLeast) .none kV6 dc6 pm6 an6 cd6 ct6), sl6⟩)
    (c6 : PySem.W.codeIn K cd6 "least_lacking" = true)
    (k6 : PySem.W.keepIn K (.ref f6) = true)
    (a7 : PySem.W.nsIn K mainGlobals "check_parts" = some (some (.ref f7)))
    (l7 : K.lookup f7 = some ⟨oc7, od7, .func (PySem.W.fnOf "check_parts" "check_parts" (defArgs CH.sCheck) (defBody CH.sCheck) (defScope CH.sCheck) .none kV7 dc7 pm7 an7 cd7 ct7), sl7⟩)
    (c7 : PySem.W.codeIn K cd7 "check_parts" = true)
    (k7 : PySem.W.keepIn K (.ref f7) = true)
    (a8 : PySem.W.findIn K (.ref CChart) "__init__" = some (some (.ref f8)))
    (i8 : PySem.W.isFn K (.ref f8) = true)
    (l8 : K.lookup f8 = some ⟨oc8, od8, .func (PySem.W.fnOf "__init__" "Chart.__init__" (defArgs CH.sInit) (defBody CH.sInit) (defScope CH.sInit) .none kV8 dc8 pm8 an8 cd8 ct8), sl8⟩)
    (c8 : PySem.W.codeIn K cd8 "Chart.__init__" = true)
    (k8 : PySem.W.keepIn K (.ref f8) = true)
    (a9 : PySem.W.nsIn K mainGlobals "chart_begun_at" = some (some (.ref f9)))
    (l9 : K.lookup f9 = some ⟨oc9, od9, .func (PySem.W.fnOf "chart_begun_at" "chart_begun_at" (defArgs sChartBegunAt) (defBody sChartBegunAt) (defScope sChartBegunAt) .none kV9 dc9 pm9 an9 cd9 ct9), sl9⟩)
    (c9 : PySem.W.codeIn K cd9 "chart_begun_at" = true)
    (k9 : PySem.W.keepIn K (.ref f9) = true)
    (a10 : PySem.W.findIn K (.ref CChart) "begun_at" = some (some (.ref f10)))
    (i10 : PySem.W.isFn K (.ref f10) = true)
    (l10 : K.lookup f10 = some ⟨oc10, od10, .func (PySem.W.fnOf "begun_at" "Chart.begun_at" (defArgs CH.sMBegunAt) (defBody CH.sMBegunAt) (defScope CH.sMBegunAt) .none kV10 dc10 pm10 an10 cd10 ct10), sl10⟩)
    (c10 : PySem.W.codeIn K cd10 "Chart.begun_at" = true)
    (k10 : PySem.W.keepIn K (.ref f10) = true)
    (a11 : PySem.W.findIn K (.ref CChart) "__eq__" = some (some (.ref f11)))
    (i11 : PySem.W.isFn K (.ref f11) = true)
    (l11 : K.lookup f11 = some ⟨oc11, od11, .func (PySem.W.fnOf "__eq__" "Chart.__eq__" (defArgs CH.sMEq) (defBody CH.sMEq) (defScope CH.sMEq) .none kV11 dc11 pm11 an11 cd11 ct11), sl11⟩)
    (c11 : PySem.W.codeIn K cd11 "Chart.__eq__" = true)
    (k11 : PySem.W.keepIn K (.ref f11) = true)
    (a12 : PySem.W.nsIn K mainGlobals "number_in" = some (some (.ref f12)))
    (l12 : K.lookup f12 = some ⟨oc12, od12, .func (PySem.W.fnOf "number_in" "number_in" (defArgs sNumberIn) (defBody sNumberIn) (defScope sNumberIn) .none kV12 dc12 pm12 an12 cd12 ct12), sl12⟩)
    (c12 : PySem.W.codeIn K cd12 "number_in" = true)
    (k12 : PySem.W.keepIn K (.ref f12) = true)
    (a13 : PySem.W.nsIn K mainGlobals "states_in" = some (some (.ref f13)))
    (l13 : K.lookup f13 = some ⟨oc13, od13, .func (PySem.W.fnOf "states_in" "states_in" (defArgs sStatesIn) (defBody sStatesIn) (defScope sStatesIn) .none kV13 dc13 pm13 an13 cd13 ct13), sl13⟩)
    (c13 : PySem.W.codeIn K cd13 "states_in" = true)
    (k13 : PySem.W.keepIn K (.ref f13) = true)
    (a14 : PySem.W.nsIn K mainGlobals "arrow_in" = some (some (.ref f14)))
    (l14 : K.lookup f14 = some ⟨oc14, od14, .func (PySem.W.fnOf "arrow_in" "arrow_in" (defArgs sArrowIn) (defBody sArrowIn) (defScope sArrowIn) .none kV14 dc14 pm14 an14 cd14 ct14), sl14⟩)
    (c14 : PySem.W.codeIn K cd14 "arrow_in" = true)
    (k14 : PySem.W.keepIn K (.ref f14) = true)
    (ra15 : PySem.W.readsIn K CChart (.type "type") = true)
    (rb15 : PySem.W.specialIn K (.ref CChart) "__getattribute__" = some (some (.builtin "type.__getattribute__")))
    (a15 : PySem.W.findCls K (.ref CChart) (.type "type") "read" = some (.get (.builtin "classmethod.__get__") (.ref p15) .none (.ref CChart)))
    (rc15 : PySem.W.recIn K p15 "classmethod" = some (.ref f15 :: rs15))
    (rf15 : PySem.W.fnIn K f15 = true)
    (l15 : K.lookup f15 = some ⟨oc15, od15, .func (PySem.W.fnOf "read" "Chart.read" (defArgs CH.sMRead) (defBody CH.sMRead) (defScope CH.sMRead) .none kV15 dc15 pm15 an15 cd15 ct15), sl15⟩)
    (c15 : PySem.W.codeIn K cd15 "Chart.read" = true)
    (k15 : PySem.W.keepIn K (.ref f15) = true)
    (a16 : PySem.W.findIn K (.ref CChart) "__str__" = some (some (.ref f16)))
    (i16 : PySem.W.isFn K (.ref f16) = true)
    (l16 : K.lookup f16 = some ⟨oc16, od16, .func (PySem.W.fnOf "__str__" "Chart.__str__" (defArgs CH.sMStr) (defBody CH.sMStr) (defScope CH.sMStr) .none kV16 dc16 pm16 an16 cd16 ct16), sl16⟩)
    (c16 : PySem.W.codeIn K cd16 "Chart.__str__" = true)
    (k16 : PySem.W.keepIn K (.ref f16) = true)
    (a17 : PySem.W.nsIn K mainGlobals "_law_deck" = some (some (.ref f17)))
    (l17 : K.lookup f17 = some ⟨oc17, od17, .func (PySem.W.fnOf "_law_deck" "_law_deck" (defArgs sDeck) (defBody sDeck) (defScope sDeck) .none kV17 dc17 pm17 an17 cd17 ct17), sl17⟩)
    (c17 : PySem.W.codeIn K cd17 "_law_deck" = true)
    (k17 : PySem.W.keepIn K (.ref f17) = true)
    (a18 : PySem.W.nsIn K mainGlobals "_law_draw" = some (some (.ref f18)))
    (l18 : K.lookup f18 = some ⟨oc18, od18, .func (PySem.W.fnOf "_law_draw" "_law_draw" (defArgs sDraw) (defBody sDraw) (defScope sDraw) .none kV18 dc18 pm18 an18 cd18 ct18), sl18⟩)
    (c18 : PySem.W.codeIn K cd18 "_law_draw" = true)
    (k18 : PySem.W.keepIn K (.ref f18) = true)
    (a19 : PySem.W.nsIn K mainGlobals "_law_pick" = some (some (.ref f19)))
    (l19 : K.lookup f19 = some ⟨oc19, od19, .func (PySem.W.fnOf "_law_pick" "_law_pick" (defArgs sPick) (defBody sPick) (defScope sPick) .none kV19 dc19 pm19 an19 cd19 ct19), sl19⟩)
    (c19 : PySem.W.codeIn K cd19 "_law_pick" = true)
    (k19 : PySem.W.keepIn K (.ref f19) = true)
    (a20 : PySem.W.nsIn K mainGlobals "_law_word" = some (some (.ref f20)))
    (l20 : K.lookup f20 = some ⟨oc20, od20, .func (PySem.W.fnOf "_law_word" "_law_word" (defArgs sWord) (defBody sWord) (defScope sWord) .none kV20 dc20 pm20 an20 cd20 ct20), sl20⟩)
    (c20 : PySem.W.codeIn K cd20 "_law_word" = true)
    (k20 : PySem.W.keepIn K (.ref f20) = true)
    (a21 : PySem.W.nsIn K mainGlobals "_law_plan" = some (some (.ref f21)))
    (l21 : K.lookup f21 = some ⟨oc21, od21, .func (PySem.W.fnOf "_law_plan" "_law_plan" (defArgs sPlan) (defBody sPlan) (defScope sPlan) .none kV21 dc21 pm21 an21 cd21 ct21), sl21⟩)
    (c21 : PySem.W.codeIn K cd21 "_law_plan" = true)
    (k21 : PySem.W.keepIn K (.ref f21) = true)
    (a22 : PySem.W.nsIn K mainGlobals "_law_written" = some (some (.ref f22)))
    (l22 : K.lookup f22 = some ⟨oc22, od22, .func (PySem.W.fnOf "_law_written" "_law_written" (defArgs sWritten) (defBody sWritten) (defScope sWritten) .none kV22 dc22 pm22 an22 cd22 ct22), sl22⟩)
    (c22 : PySem.W.codeIn K cd22 "_law_written" = true)
    (k22 : PySem.W.keepIn K (.ref f22) = true)
    (a23 : PySem.W.nsIn K mainGlobals "_law_right" = some (some (.ref f23)))
    (l23 : K.lookup f23 = some ⟨oc23, od23, .func (PySem.W.fnOf "_law_right" "_law_right" (defArgs sRight) (defBody sRight) (defScope sRight) .none kV23 dc23 pm23 an23 cd23 ct23), sl23⟩)
    (c23 : PySem.W.codeIn K cd23 "_law_right" = true)
    (k23 : PySem.W.keepIn K (.ref f23) = true)
    (a24 : PySem.W.nsIn K mainGlobals "_law_long_right" = some (some (.ref f24)))
    (l24 : K.lookup f24 = some ⟨oc24, od24, .func (PySem.W.fnOf "_law_long_right" "_law_long_right" (defArgs sLongRight) (defBody sLongRight) (defScope sLongRight) .none kV24 dc24 pm24 an24 cd24 ct24), sl24⟩)
    (c24 : PySem.W.codeIn K cd24 "_law_long_right" = true)
    (k24 : PySem.W.keepIn K (.ref f24) = true)
    (a25 : PySem.W.nsIn K mainGlobals "law" = some (some (.ref f25)))
    (l25 : K.lookup f25 = some ⟨oc25, od25, .func (PySem.W.fnOf "law" "law" (defArgs sLaw) (defBody sLaw) (defScope sLaw) .none kV25 dc25 pm25 an25 cd25 ct25), sl25⟩)
    (c25 : PySem.W.codeIn K cd25 "law" = true)
    (k25 : PySem.W.keepIn K (.ref f25) = true)
    (pgCChart : PySem.W.plainGet K CChart Str.empty = true)
    (hdCChart : PySem.W.hasDictIn K CChart = true)
    (poCChart : PySem.W.plainOver K CChart = true)
    (saCChart : PySem.W.findIn K (.ref CChart) "__setattr__" = some (some (.builtin "object.__setattr__")))
    (mkCChart : PySem.W.makesIn K CChart = true)
    (kcCChart : PySem.W.keepIn K (.ref CChart) = true)
    (haCChart : PySem.W.findIn K (.ref CChart) "__class__" = some (some (.builtin "object.__class__")))
    (hnCChart : PySem.W.specialIn K (.builtin "object.__class__") "__get__" = some (some (.builtin "getset_descriptor.__get__")))
    (htCChart : PySem.W.takesIn K (.builtin "object.__class__") = some true)
    (hmCChart : PySem.W.mroIn K CChart (.type "object") = some true)
    (nCChartstates : PySem.W.findIn K (.ref CChart) "states" = some none)
    (nCChartarrows : PySem.W.findIn K (.ref CChart) "arrows" = some none)
    (nCChartopen_steps : PySem.W.findIn K (.ref CChart) "open_steps" = some none)
    (e1 : PySem.W.nsIn K mainGlobals "END" = some (some (.int (-1) tk1)))
    (e2 : PySem.W.nsIn K mainGlobals "LONGEST_LABEL" = some (some (.int 8 tk2)))
    (e3 : PySem.W.nsIn K mainGlobals "PARTS" = some (some (.int 3 tk3)))
    (e4 : PySem.W.nsIn K mainGlobals "LETTERS" = some (some (.str CH.lets tk4)))
    (e5 : PySem.W.nsIn K mainGlobals "DIGITS" = some (some (.str digS tk5)))
    (e6 : PySem.W.nsIn K mainGlobals "STATES_WORD" = some (some (.str stS tk6)))
    (e7 : PySem.W.nsIn K mainGlobals "END_WORD" = some (some (.str endS tk7)))
    (rRESERVED : PySem.W.nsIn K mainGlobals "RESERVED" = some (some (.ref aTRESERVED)))
    (tRESERVED : K.lookup aTRESERVED = some ⟨.type "tuple", odTRESERVED, .seq itTRESERVED nTRESERVED, slTRESERVED⟩)
    (vRESERVED : Vals (CH.resW.map V.str) itTRESERVED.toList)
    (zint : PySem.W.nsIn K mainGlobals "int" = some none)
    (zlen : PySem.W.nsIn K mainGlobals "len" = some none)
    (zlist : PySem.W.nsIn K mainGlobals "list" = some none)
    (ztuple : PySem.W.nsIn K mainGlobals "tuple" = some none)
    (zdict : PySem.W.nsIn K mainGlobals "dict" = some none)
    (zset : PySem.W.nsIn K mainGlobals "set" = some none)
    (zsorted : PySem.W.nsIn K mainGlobals "sorted" = some none)
    (zsum : PySem.W.nsIn K mainGlobals "sum" = some none)
    (zrepr : PySem.W.nsIn K mainGlobals "repr" = some none)
    (zrange : PySem.W.nsIn K mainGlobals "range" = some none)
    (zmax : PySem.W.nsIn K mainGlobals "max" = some none)
    (zmin : PySem.W.nsIn K mainGlobals "min" = some none)
    (zisinstance : PySem.W.nsIn K mainGlobals "isinstance" = some none)
    (zall : PySem.W.nsIn K mainGlobals "all" = some none)
    (zzip : PySem.W.nsIn K mainGlobals "zip" = some none)
    (zstr : PySem.W.nsIn K mainGlobals "str" = some none)
    (zbool : PySem.W.nsIn K mainGlobals "bool" = some none)
    : ∃ fd : FuncData, (∀ (s : Shared) (v : Value), BindsTo s fd ⟨[v], []⟩ [("_law_script", v)]) ∧ ∀ base : Heap, K.In base → base.Ns mainGlobals mg → FnG l.prog w K mg base CX0 8 fa fd ["_law_script"] (ML.spLaw0 K) := by
  have e := hfa.symm.trans (PySem.W.mg_of X G a25)
  cases e
  have F1 := fun_mk (st := CH.sLabel) l1 c1 k1
  have F2 := fun_mk (st := CH.sInt) l2 c2 k2
  have F3 := fun_mk (st := CH.sArrow) l3 c3 k3
  have F4 := fun_mk (st := CH.sSteps) l4 c4 k4
  have F5 := fun_mk (st := CH.sReached) l5 c5 k5
  have F6 := fun_mk (st := CH.sLeast) l6 c6 k6
  have F7 := fun_mk (st := CH.sCheck) l7 c7 k7
  have F8 := fun_mk (st := CH.sInit) l8 c8 k8
  have F9 := fun_mk (st := sChartBegunAt) l9 c9 k9
  have F10 := fun_mk (st := CH.sMBegunAt) l10 c10 k10
  have F11 := fun_mk (st := CH.sMEq) l11 c11 k11
  have F12 := fun_mk (st := sNumberIn) l12 c12 k12
  have F13 := fun_mk (st := sStatesIn) l13 c13 k13
  have F14 := fun_mk (st := sArrowIn) l14 c14 k14
  have F15 := fun_mk (st := CH.sMRead) l15 c15 k15
  have F16 := fun_mk (st := CH.sMStr) l16 c16 k16
  have F17 := fun_mk (st := sDeck) l17 c17 k17
  have F18 := fun_mk (st := sDraw) l18 c18 k18
  have F19 := fun_mk (st := sPick) l19 c19 k19
  have F20 := fun_mk (st := sWord) l20 c20 k20
  have F21 := fun_mk (st := sPlan) l21 c21 k21
  have F22 := fun_mk (st := sWritten) l22 c22 k22
  have F23 := fun_mk (st := sRight) l23 c23 k23
  have F24 := fun_mk (st := sLongRight) l24 c24 k24
  have F25 := fun_mk (st := sLaw) l25 c25 k25
  have b1 := F1.binds (ps := ["thing"]) fun _ _ _ _ _ _ us hl => match us, hl with | [_], _ => rfl
  have b2 := F2.binds (ps := ["thing"]) fun _ _ _ _ _ _ us hl => match us, hl with | [_], _ => rfl
  have b3 := F3.binds (ps := ["states", "thing"]) fun _ _ _ _ _ _ us hl => match us, hl with | [_, _], _ => rfl
  have b4 := F4.binds (ps := ["arrows"]) fun _ _ _ _ _ _ us hl => match us, hl with | [_], _ => rfl
  have b5 := F5.binds (ps := ["state", "arrows"]) fun _ _ _ _ _ _ us hl => match us, hl with | [_, _], _ => rfl
  have b6 := F6.binds (ps := ["found"]) fun _ _ _ _ _ _ us hl => match us, hl with | [_], _ => rfl
  have b7 := F7.binds (ps := ["states", "arrows"]) fun _ _ _ _ _ _ us hl => match us, hl with | [_, _], _ => rfl
  have b8 := F8.binds (ps := ["self", "states", "arrows"]) fun _ _ _ _ _ _ us hl => match us, hl with | [_, _, _], _ => rfl
  have b9 := F9.binds (ps := ["start", "arrows"]) fun _ _ _ _ _ _ us hl => match us, hl with | [_, _], _ => rfl
  have b10 := F10.binds (ps := ["self", "state"]) fun _ _ _ _ _ _ us hl => match us, hl with | [_, _], _ => rfl
  have b11 := F11.binds (ps := ["self", "other"]) fun _ _ _ _ _ _ us hl => match us, hl with | [_, _], _ => rfl
  have b12 := F12.binds (ps := ["word"]) fun _ _ _ _ _ _ us hl => match us, hl with | [_], _ => rfl
  have b13 := F13.binds (ps := ["line"]) fun _ _ _ _ _ _ us hl => match us, hl with | [_], _ => rfl
  have b14 := F14.binds (ps := ["line"]) fun _ _ _ _ _ _ us hl => match us, hl with | [_], _ => rfl
  have b15 := F15.binds (ps := ["cls", "text"]) fun _ _ _ _ _ _ us hl => match us, hl with | [_, _], _ => rfl
  have b16 := F16.binds (ps := ["self"]) fun _ _ _ _ _ _ us hl => match us, hl with | [_], _ => rfl
  have b17 := F17.binds (ps := ["_law_script"]) fun _ _ _ _ _ _ us hl => match us, hl with | [_], _ => rfl
  have b18 := F18.binds (ps := ["_law_deck_here", "_law_many"]) fun _ _ _ _ _ _ us hl => match us, hl with | [_, _], _ => rfl
  have b19 := F19.binds (ps := ["_law_deck_here", "_law_some"]) fun _ _ _ _ _ _ us hl => match us, hl with | [_, _], _ => rfl
  have b20 := F20.binds (ps := ["_law_deck_here"]) fun _ _ _ _ _ _ us hl => match us, hl with | [_], _ => rfl
  have b21 := F21.binds (ps := ["_law_deck_here", "_law_top"]) fun _ _ _ _ _ _ us hl => match us, hl with | [_, _], _ => rfl
  have b22 := F22.binds (ps := ["_law_count", "_law_links"]) fun _ _ _ _ _ _ us hl => match us, hl with | [_, _], _ => rfl
  have b23 := F23.binds (ps := ["_law_code"]) fun _ _ _ _ _ _ us hl => match us, hl with | [_], _ => rfl
  have b24 := F24.binds (ps := ["_law_deck_here"]) fun _ _ _ _ _ _ us hl => match us, hl with | [_], _ => rfl
  have T : Blt mg := ⟨PySem.W.mg_none_of X G zint, PySem.W.mg_none_of X G zlen, PySem.W.mg_none_of X G zlist, PySem.W.mg_none_of X G ztuple, PySem.W.mg_none_of X G zdict, PySem.W.mg_none_of X G zset, PySem.W.mg_none_of X G zsorted, PySem.W.mg_none_of X G zsum, PySem.W.mg_none_of X G zrepr, PySem.W.mg_none_of X G zrange, PySem.W.mg_none_of X G zmax, PySem.W.mg_none_of X G zmin⟩
  have T2 : CH.Blt2 mg := ⟨T, PySem.W.mg_none_of X G zisinstance, PySem.W.mg_none_of X G zall, PySem.W.mg_none_of X G zzip, PySem.W.mg_none_of X G zstr, PySem.W.mg_none_of X G zbool⟩
  have CC : CH.ChC K mg CChart := ⟨⟨pgCChart, hdCChart, poCChart, saCChart⟩, nCChartstates, nCChartarrows, nCChartopen_steps, PySem.W.mg_of X G gCChart⟩
  have gEND : ∃ u, mg "END" = some u ∧ RelV (.int (-1)) u := ⟨_, PySem.W.mg_of X G e1, ⟨_, rfl⟩⟩
  have gLONGEST_LABEL : ∃ u, mg "LONGEST_LABEL" = some u ∧ RelV (.int 8) u := ⟨_, PySem.W.mg_of X G e2, ⟨_, rfl⟩⟩
  have gPARTS : ∃ u, mg "PARTS" = some u ∧ RelV (.int 3) u := ⟨_, PySem.W.mg_of X G e3, ⟨_, rfl⟩⟩
  have gLETTERS : ∃ u, mg "LETTERS" = some u ∧ RelV (.str CH.lets) u := ⟨_, PySem.W.mg_of X G e4, ⟨_, rfl⟩⟩
  have gDIGITS : ∃ u, mg "DIGITS" = some u ∧ RelV (.str digS) u := ⟨_, PySem.W.mg_of X G e5, ⟨_, rfl⟩⟩
  have gSTATES_WORD : ∃ u, mg "STATES_WORD" = some u ∧ RelV (.str stS) u := ⟨_, PySem.W.mg_of X G e6, ⟨_, rfl⟩⟩
  have gEND_WORD : ∃ u, mg "END_WORD" = some u ∧ RelV (.str endS) u := ⟨_, PySem.W.mg_of X G e7, ⟨_, rfl⟩⟩
  have gRESERVED : ∃ a, mg "RESERVED" = some (.ref a) ∧ ∀ H : Hp, SqT K H a (CH.resW.map V.str) := ⟨_, PySem.W.mg_of X G rRESERVED, fun H => .inr ⟨_, _, _, tRESERVED, rfl, rfl, by rw [← Array.length_toList, ← vRESERVED.length, List.length_map]; decide, vRESERVED⟩⟩
  have CS : CH.Cst K mg := ⟨gEND, gLONGEST_LABEL, gPARTS, gLETTERS, gRESERVED⟩
  have CHI : ChI K CChart := ⟨haCChart, hnCChart, htCChart, hmCChart⟩
  refine ⟨PySem.W.fnOf "law" "law" (defArgs sLaw) (defBody sLaw) (defScope sLaw) .none kV25 dc25 pm25 an25 cd25 ct25, fun s v => .of_eq rfl, fun base _ _ => ?_⟩
  have h1 : Has l.prog w K mg base "is_label" 1 ["thing"] CH.spLabel := ⟨_, _, CH.ok_label F1 T2 CS, PySem.W.mg_of X G a1, k1, b1⟩
  have m1 : HasM l.prog w K mg base "is_label" 1 ["thing"] (S_is_label K) := .of h1 label_conv
  have h2 : Has l.prog w K mg base "is_integer" 1 ["thing"] CH.spInt := ⟨_, _, CH.ok_int F2 T2, PySem.W.mg_of X G a2, k2, b2⟩
  have h3 : Has l.prog w K mg base "is_arrow" 2 ["states", "thing"] (CH.spArrow K) := ⟨_, _, CH.ok_arrow F3 T2 CS h1 h2, PySem.W.mg_of X G a3, k3, b3⟩
  have h4 : Has l.prog w K mg base "steps_by_source" 1 ["arrows"] (CH.spSteps K) := ⟨_, _, CH.ok_steps F4, PySem.W.mg_of X G a4, k4, b4⟩
  have h5 : Has l.prog w K mg base "reached_from" 2 ["state", "arrows"] (CH.spReached K) := ⟨_, _, CH.ok_reached F5 CS h4, PySem.W.mg_of X G a5, k5, b5⟩
  have m5 : HasM l.prog w K mg base "reached_from" 2 ["state", "arrows"] (S_reached_from K) := .of h5 reached_conv
  have h6 : Has l.prog w K mg base "least_lacking" 1 ["found"] CH.spLeast := ⟨_, _, CH.ok_least F6, PySem.W.mg_of X G a6, k6, b6⟩
  have h7 : Has l.prog w K mg base "check_parts" 3 ["states", "arrows"] (CH.spCheck K) := ⟨_, _, CH.ok_check F7 T2 h2 h3 h6 h5, PySem.W.mg_of X G a7, k7, b7⟩
  have h8 : FnOk l.prog w K mg base CX0 4 f8 _ ["self", "states", "arrows"] (CH.spInit K CChart) := CH.ok_init F8 T2 CC h7 h4
  have m9 : HasM l.prog w K mg base "chart_begun_at" 6 ["start", "arrows"] (S_chart_begun_at K CChart) := ⟨_, _, ok_cb F9 T2 gEND CC ⟨mkCChart, a8, i8, kcCChart⟩ h8 b8 m5, PySem.W.mg_of X G a9, k9, b9⟩
  have h10 : FnG l.prog w K mg base CX0 7 f10 _ ["self", "state"] (spOf 0 (begunAtM K CChart)) := ok_begunAt F10 CC m9
  have h11 : FnG l.prog w K mg base CX0 1 f11 _ ["self", "other"] (spOf 0 (eqM K CChart)) := ok_eq F11 T2 CC CHI
  have m12 : HasM l.prog w K mg base "number_in" 1 ["word"] (S_number_in K) := ⟨_, _, ok_numberIn F12 T2 gDIGITS, PySem.W.mg_of X G a12, k12, b12⟩
  have m13 : HasM l.prog w K mg base "states_in" 2 ["line"] (S_states_in K) := ⟨_, _, ok_statesIn F13 T2 gSTATES_WORD m12, PySem.W.mg_of X G a13, k13, b13⟩
  have m14 : HasM l.prog w K mg base "arrow_in" 2 ["line"] (S_arrow_in K) := ⟨_, _, ok_arrowIn F14 T2 gEND gEND_WORD gPARTS m12 m1, PySem.W.mg_of X G a14, k14, b14⟩
  have h15 : FnG l.prog w K mg base CX0 6 f15 _ ["cls", "text"] (spOf 0 (readM K CChart)) := ok_read F15 T2 ⟨mkCChart, a8, i8, kcCChart⟩ h8 b8 m13 m14
  have h16 : FnG l.prog w K mg base CX0 1 f16 _ ["self"] (spOf 0 (strM K CChart)) := ok_str F16 CC gEND gEND_WORD gSTATES_WORD
  have h17 : Has l.prog w K mg base "_law_deck" 1 ["_law_script"] (spDeck K) := ⟨_, _, ok_deck F17 T, PySem.W.mg_of X G a17, k17, b17⟩
  have m17 : HasM l.prog w K mg base "_law_deck" 1 ["_law_script"] (S_law_deck K) := .of h17 deck_conv
  have h18 : Has l.prog w K mg base "_law_draw" 1 ["_law_deck_here", "_law_many"] spDraw := ⟨_, _, ok_draw F18 T, PySem.W.mg_of X G a18, k18, b18⟩
  have m18 : HasM l.prog w K mg base "_law_draw" 1 ["_law_deck_here", "_law_many"] (S_law_draw K) := .of h18 draw_conv
  have h19 : Has l.prog w K mg base "_law_pick" 2 ["_law_deck_here", "_law_some"] (spPick K) := ⟨_, _, ok_pick F19 T h18, PySem.W.mg_of X G a19, k19, b19⟩
  have m19 : HasM l.prog w K mg base "_law_pick" 2 ["_law_deck_here", "_law_some"] (S_law_pick K) := .of h19 pick_conv
  have m20 : HasM l.prog w K mg base "_law_word" 3 ["_law_deck_here"] (S_law_word K) := ⟨_, _, ok_word F20 m19, PySem.W.mg_of X G a20, k20, b20⟩
  have m21 : HasM l.prog w K mg base "_law_plan" 4 ["_law_deck_here", "_law_top"] (S_law_plan K) := ⟨_, _, ok_plan F21 T m18 m20, PySem.W.mg_of X G a21, k21, b21⟩
  have m22 : HasM l.prog w K mg base "_law_written" 1 ["_law_count", "_law_links"] (S_law_written K) := ⟨_, _, ok_written F22 T2, PySem.W.mg_of X G a22, k22, b22⟩
  have m23 : HasM l.prog w K mg base "_law_right" 7 ["_law_code"] (spOf 0 (rightM K CChart)) := ⟨_, _, ok_right F23 T2 CC ⟨ra15, rb15⟩ ⟨a15, ⟨_, rc15⟩, rf15⟩ h15 (LB.FnG.raw h15 b15) (fun s a u => .of_eq rfl) (LB.FnG.raw h16 b16) a16 i16 (LB.FnG.raw h11 b11) a11 i11 m22, PySem.W.mg_of X G a23, k23, b23⟩
  have m24 : HasM l.prog w K mg base "_law_long_right" 7 ["_law_deck_here"] (spOf 1 (longM K CChart)) := ⟨_, _, ok_longRight F24 T2 CC ⟨ra15, rb15⟩ ⟨a15, ⟨_, rc15⟩, rf15⟩ h15 (LB.FnG.raw h15 b15) (fun s a u => .of_eq rfl) (LB.FnG.raw h16 b16) a16 i16 m22 m18 m20, PySem.W.mg_of X G a24, k24, b24⟩
  exact (ok_law2 F25 T2 CC ⟨mkCChart, a8, i8, kcCChart⟩ h8 b8 ⟨a10, i10, k10⟩ (LB.FnG.raw h10 b10) (LB.FnG.raw h16 b16) a16 i16 (LB.FnG.raw h11 b11) a11 i11 m17 m18 m19 m21 m23 m24).conv law_conv
end K24
open PySem PySem.W PyProof.Rows
set_option maxHeartbeats 0 in
theorem PySem.Challenge.cw_loopsaid_k04_texts_of_charts_holds : PySem.Challenge.rw_loopsaid_k04_texts_of_charts.Holds := by
  w_on; o_law; k_head; (case hw => w_witness2)
  k_fill
  refine GL.walk_ofG (l := PySem.Challenge.rw_loopsaid_k04_texts_of_charts) (n := 63) (k := 8) (x := "_law_script") (CX := fun _ => L2.CX0) (sp := fun w => ML.spLaw0 _) rfl (by decide) rfl ⟨rfl, by decide, by decide⟩ (fun w h Y => PySem.W.kIn_of Y) ?F (fun _ _ a ns hl _ hS => ⟨a, ns, rfl, hS, hl, fun _ => rfl⟩) (fun _ _ _ _ _ h => h)
  case F =>
    intro w mg fa h KX G hmg
    refine' K24.all_mk KX G hmg ?gCChart ?a1 ?l1 ?c1 ?k1 ?a2 ?l2 ?c2 ?k2 ?a3 ?l3 ?c3 ?k3 ?a4 ?l4 ?c4 ?k4 ?a5 ?l5 ?c5 ?k5 ?a6 ?l6 ?c6 ?k6 ?a7 ?l7 ?c7 ?k7 ?a8 ?i8 ?l8 ?c8 ?k8 ?a9 ?l9 ?c9 ?k9 ?a10 ?i10 ?l10 ?c10 ?k10 ?a11 ?i11 ?l11 ?c11 ?k11 ?a12 ?l12 ?c12 ?k12 ?a13 ?l13 ?c13 ?k13 ?a14 ?l14 ?c14 ?k14 ?ra15 ?rb15 ?a15 ?rc15 ?rf15 ?l15 ?c15 ?k15 ?a16 ?i16 ?l16 ?c16 ?k16 ?a17 ?l17 ?c17 ?k17 ?a18 ?l18 ?c18 ?k18 ?a19 ?l19 ?c19 ?k19 ?a20 ?l20 ?c20 ?k20 ?a21 ?l21 ?c21 ?k21 ?a22 ?l22 ?c22 ?k22 ?a23 ?l23 ?c23 ?k23 ?a24 ?l24 ?c24 ?k24 ?a25 ?l25 ?c25 ?k25 ?pgCChart ?hdCChart ?poCChart ?saCChart ?mkCChart ?kcCChart ?haCChart ?hnCChart ?htCChart ?hmCChart ?nCChartstates ?nCChartarrows ?nCChartopen_steps ?e1 ?e2 ?e3 ?e4 ?e5 ?e6 ?e7 ?rRESERVED ?tRESERVED ?vRESERVED ?zint ?zlen ?zlist ?ztuple ?zdict ?zset ?zsorted ?zsum ?zrepr ?zrange ?zmax ?zmin ?zisinstance ?zall ?zzip ?zstr ?zbool
    (case gCChart => k_is); (case a1 => k_is); (case l1 => k_is); (case c1 => k_is); (case k1 => k_is); (case a2 => k_is); (case l2 => k_is); (case c2 => k_is); (case k2 => k_is); (case a3 => k_is); (case l3 => k_is); (case c3 => k_is); (case k3 => k_is); (case a4 => k_is); (case l4 => k_is); (case c4 => k_is); (case k4 => k_is); (case a5 => k_is); (case l5 => k_is); (case c5 => k_is); (case k5 => k_is); (case a6 => k_is); (case l6 => k_is); (case c6 => k_is); (case k6 => k_is); (case a7 => k_is); (case l7 => k_is); (case c7 => k_is); (case k7 => k_is); (case a8 => k_is); (case i8 => k_is); (case l8 => k_is); (case c8 => k_is); (case k8 => k_is); (case a9 => k_is); (case l9 => k_is); (case c9 => k_is); (case k9 => k_is); (case a10 => k_is); (case i10 => k_is); (case l10 => k_is); (case c10 => k_is); (case k10 => k_is); (case a11 => k_is); (case i11 => k_is); (case l11 => k_is); (case c11 => k_is); (case k11 => k_is); (case a12 => k_is); (case l12 => k_is); (case c12 => k_is); (case k12 => k_is); (case a13 => k_is); (case l13 => k_is); (case c13 => k_is); (case k13 => k_is); (case a14 => k_is); (case l14 => k_is); (case c14 => k_is); (case k14 => k_is); (case ra15 => k_is); (case rb15 => k_is); (case a15 => k_is); (case rc15 => k_is); (case rf15 => k_is); (case l15 => k_is); (case c15 => k_is); (case k15 => k_is); (case a16 => k_is); (case i16 => k_is); (case l16 => k_is); (case c16 => k_is); (case k16 => k_is); (case a17 => k_is); (case l17 => k_is); (case c17 => k_is); (case k17 => k_is); (case a18 => k_is); (case l18 => k_is); (case c18 => k_is); (case k18 => k_is); (case a19 => k_is); (case l19 => k_is); (case c19 => k_is); (case k19 => k_is); (case a20 => k_is); (case l20 => k_is); (case c20 => k_is); (case k20 => k_is); (case a21 => k_is); (case l21 => k_is); (case c21 => k_is); (case k21 => k_is); (case a22 => k_is); (case l22 => k_is); (case c22 => k_is); (case k22 => k_is); (case a23 => k_is); (case l23 => k_is); (case c23 => k_is); (case k23 => k_is); (case a24 => k_is); (case l24 => k_is); (case c24 => k_is); (case k24 => k_is); (case a25 => k_is); (case l25 => k_is); (case c25 => k_is); (case k25 => k_is); (case pgCChart => k_is); (case hdCChart => k_is); (case poCChart => k_is); (case saCChart => k_is); (case mkCChart => k_is); (case kcCChart => k_is); (case haCChart => k_is); (case hnCChart => k_is); (case htCChart => k_is); (case hmCChart => k_is); (case nCChartstates => k_is); (case nCChartarrows => k_is); (case nCChartopen_steps => k_is); (case e1 => k_is); (case e2 => k_is); (case e3 => k_is); (case e4 => k_is); (case e5 => k_is); (case e6 => k_is); (case e7 => k_is); (case rRESERVED => k_is); (case tRESERVED => k_is); (case vRESERVED => exact .cons ⟨_, rfl⟩ (.cons ⟨_, rfl⟩ (.cons ⟨_, rfl⟩ (.cons ⟨_, rfl⟩ (.cons ⟨_, rfl⟩ (.cons ⟨_, rfl⟩ (.cons ⟨_, rfl⟩ (.nil)))))))); (case zint => k_is); (case zlen => k_is); (case zlist => k_is); (case ztuple => k_is); (case zdict => k_is); (case zset => k_is); (case zsorted => k_is); (case zsum => k_is); (case zrepr => k_is); (case zrange => k_is); (case zmax => k_is); (case zmin => k_is); (case zisinstance => k_is); (case zall => k_is); (case zzip => k_is); (case zstr => k_is); (case zbool => k_is)
